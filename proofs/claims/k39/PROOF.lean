import PyProof.Rows.All
import Wide.All
import OpenK.AllK
import Wide.FinOn
import HandS.ForMost
import HandS.ForExc
import HandS.Wide
import HandS.IsInst
import HandS.Deep
import HandS.TupAny
import PyProof.EqAt
import PyProof.Rows.CountFlat
import HandS.ExcCtx
import HandS.HotCalls
import HandS.ExcIs
import HandS.ExcField
import KE.KExcIs
import HandS.Defaults
import HandS.Head0
import HandS.Head1
import HandS.Head2
import HandS.HeadEnd
import HandS.HeadHook1
import HandS.HeadHook2
import HandS.HeadHook3
import HandS.HeadHook4
import HandS.ExcInit
import HandS.EndBits
import HandS.Zip
import HandS.TupMul
import PySem.Challenge.RW_rolldiscs_k39_fewest_known
import HandS.Conv
import HandS.Style
import HandS.SortInts
import HandS.More
import HandS.TryOnly
import HandS.SortRule
import HandS.TupSets
import HandS.SortKw
import KE.KSortTupAny
import KE.GoesNew
import KE.GoesMore
import KE.GoesEnum
import PyProof.AssignAttr
import HandS.Hot
import PyProof.ConsumeS
import PyProof.Rows.SetFrom
import HandS.SetFor
import HandS.Strs
import HandS.Text
import HandS.Codes
import HandS.Iter
import KE.GoesComp
import KE.KAsSuite
import PyProof.ReprRoads
import HandS.Flow
import PyProof.P3Eq
set_option Elab.async false
set_option linter.all false
set_option maxRecDepth 100000
set_option maxHeartbeats 0
namespace Ow
open PySem PySem.Spec PyProof.Rows L2

/-- data of Python, by value -/
inductive D where
  | non | bl (b : Bool) | int (i : Int) | str (x : Str) | tup (ds : List D) | lst (ds : List D)
  | dK (kvs : List (Key × D)) | dT (kvs : List (List Int × D)) | ins (c : Str) (fs : List (Str × D))
  | fzl (ds : List D) | exn (c : Str) (p : D)
instance : Inhabited D := ⟨.non⟩
/-- whose an address is: the world's around, the parameters', given up for good, a slot's, a value's on its way -/
inductive Lab where
  | out | prm | fro | slt (i : Nat) | tmp (n : Nat)
  deriving DecidableEq
/-- how a value is held: all its lists are its own; all are others' (or given up); its uppermost list is its own, what is within is others' -/
inductive Kd where
  | own | bor (R : List Lab) | spn (R : List Lab) | exc (R : List Lab)
abbrev Ctx := List (Option Kd)
abbrev Labs := Addr → Lab

/-- the field that an exception of the class bears -/
def pfOf (c : Str) : Option Str := if c = "Ring" then some "ring" else if c = "Stopped" then some "shaft" else none
/-- the classes by their names; the exception that is handled, its class's name, its dict -/
structure CE where
  cl : Str → Addr → Prop
  ex : Str → Addr → Option Addr → Prop
/-- tuples and frozen things stay -/
structure TK (H H' : Hp) : Prop where
  tup : ∀ b xs, H b = some (.tup xs) → H' b = some (.tup xs)
  frz : ∀ b o u, H b = some (.frz o u) → H' b = some (.frz o u)
theorem TK.refl (H : Hp) : TK H H := ⟨fun _ _ h => h, fun _ _ _ h => h⟩
theorem TK.trans {H H1 H2 : Hp} (a : TK H H1) (b : TK H1 H2) : TK H H2 := ⟨fun x xs h => b.tup x xs (a.tup x xs h), fun x o u h => b.frz x o u (a.frz x o u h)⟩
theorem TK.sqt {K : PySem.W.Frag} {H H' : Hp} (t : TK H H') {a : Addr} {xs : List V} (h : SqT K H a xs) : SqT K H' a xs := by
  rcases h with (h | ⟨o, h⟩) | h
  · exact .inl (.inl (t.tup _ _ h))
  · exact .inl (.inr ⟨o, t.frz _ _ _ h⟩)
  · exact .inr h
theorem TK.new {H : Hp} {p : Addr} {o : HO} (h : H p = none) : TK H (upd H p o) :=
  ⟨fun b xs e => by rw [upd_ne (ne_of_none e h)]; exact e, fun b ob u e => by rw [upd_ne (ne_of_none e h)]; exact e⟩
def isMut : HO → Prop
  | .tup _ => False
  | .frz _ _ => False
  | _ => True
theorem TK.mut {H : Hp} {p : Addr} {u o : HO} (h : H p = some u) (m : isMut u) : TK H (upd H p o) :=
  ⟨fun b xs e => by
    by_cases q : b = p
    · subst q; rw [h] at e; cases e; exact m.elim
    · rw [upd_ne q]; exact e, fun b ob v e => by
    by_cases q : b = p
    · subst q; rw [h] at e; cases e; exact m.elim
    · rw [upd_ne q]; exact e⟩

/-- a list that no one may change: the world's, the written part's -/
def FzL (K : PySem.W.Frag) (H : Hp) (a : Addr) (vs : List V) : Prop := (∃ o, H a = some (.frz o (.lst vs))) ∨ ∃ (o : Obj) (its : Array Value) (n : Nat), K.lookup a = some o ∧ o.cls = .type "list" ∧ o.dict = none ∧ o.data = .seq its n ∧ its.size ≤ sizeLine ∧ Vals vs its.toList
theorem FzL.sql {K : PySem.W.Frag} {H : Hp} {a : Addr} {vs : List V} (h : FzL K H a vs) : SqL K H a vs := h.elim (fun ⟨o, h⟩ => .inl (.inr ⟨o, h⟩)) .inr
theorem FzL.tk {K : PySem.W.Frag} {H H' : Hp} {a : Addr} {vs : List V} (h : FzL K H a vs) (t : TK H H') : FzL K H' a vs := h.elim (fun ⟨o, h⟩ => .inl ⟨o, t.frz _ _ _ h⟩) .inr
/-- an object of the heap, just so -/
def atO (a : Addr) (o : Obj) : Heap → Prop := fun h => h.get? a = some o
/-- a dict's object: its keys are tuples of whole numbers, in order, where they lie, and the values -/
structure DxOk (a : Addr) (o : Obj) (us : List (List Int × Addr × Value)) : Prop where
  nm : (a == sysModules) = false
  ex : o.ExactDict
  es : ∃ es ep, o.data = .dict es ep ∧ ∀ (P : Program) (w : World), es.toList = us.map (entryOfKey (tupleKind (intKind P w)))
  nd : (us.map (·.1)).Nodup
  sz : us.length ≤ sizeLine
section
variable (K : PySem.W.Frag) (cl : CE) (H : Hp)
mutual
/-- at H, v is a d; fp: the addresses of all lists, dicts, instances in it -/
inductive Rp : V → D → List Addr → Prop
  | non : Rp .non .non []
  | bl (b : Bool) : Rp (.bl b) (.bl b) []
  | int (i : Int) : Rp (.int i) (.int i) []
  | str (x : Str) : Rp (.str x) (.str x) []
  | tup {a : Addr} {vs : List V} {ds : List D} {fp : List Addr} (h : SqT K H a vs) (r : RpL vs ds fp) : Rp (.ref a) (.tup ds) fp
  | lst {a : Addr} {vs : List V} {ds : List D} {fp : List Addr} (h : H a = some (.lst vs)) (r : RpL vs ds fp) : Rp (.ref a) (.lst ds) (a :: fp)
  | lsf {a : Addr} {vs : List V} {ds : List D} {fp : List Addr} (h : FzL K H a vs) (r : RpL vs ds fp) : Rp (.ref a) (.fzl ds) fp
  | dK {a : Addr} {kvs : List (Key × V)} {kds : List (Key × D)} {fp : List Addr} (h : H a = some (.dK kvs)) (k : kvs.map (·.1) = kds.map (·.1)) (r : RpL (kvs.map (·.2)) (kds.map (·.2)) fp) : Rp (.ref a) (.dK kds) (a :: fp)
  | dT {a : Addr} {o : Obj} {us : List (List Int × Addr × Value)} {vs : List V} {kds : List (List Int × D)} {fp : List Addr} (h : H a = some (.ext (atO a o))) (ok : DxOk a o us) (hk : ∀ u ∈ us, SqT K H u.2.1 (u.1.map V.int)) (k : us.map (·.1) = kds.map (·.1)) (hv : Vals vs (us.map (·.2.2))) (r : RpL vs (kds.map (·.2)) fp) : Rp (.ref a) (.dT kds) (a :: fp)
  | ins {a C dx : Addr} {c : Str} {fs : List (Str × V)} {fds : List (Str × D)} {fp : List Addr} (hc : cl.cl c C) (h : H a = some (.ins C dx fs)) (k : fs.map (·.1) = fds.map (·.1)) (r : RpL (fs.map (·.2)) (fds.map (·.2)) fp) : Rp (.ref a) (.ins c fds) (a :: fp)
inductive RpL : List V → List D → List Addr → Prop
  | nil : RpL [] [] []
  | cons {v : V} {d : D} {f1 : List Addr} {vs : List V} {ds : List D} {f2 : List Addr} (h : Rp v d f1) (r : RpL vs ds f2) : RpL (v :: vs) (d :: ds) (f1 ++ f2)
end
end

section
variable {K : PySem.W.Frag} {cl : CE} {H H' : Hp}
mutual
theorem Rp.ext (tk : TK H H') : ∀ {v : V} {d : D} {fp : List Addr}, Rp K cl H v d fp → (∀ a ∈ fp, H' a = H a) → Rp K cl H' v d fp
  | _, _, _, .non, _ => .non
  | _, _, _, .bl b, _ => .bl b
  | _, _, _, .int i, _ => .int i
  | _, _, _, .str x, _ => .str x
  | _, _, _, .tup h r, e => .tup (tk.sqt h) (RpL.ext tk r e)
  | _, _, _, .lst h r, e => .lst ((e _ List.mem_cons_self).trans h) (RpL.ext tk r fun a ha => e a (List.mem_cons_of_mem _ ha))
  | _, _, _, .lsf h r, e => .lsf (h.tk tk) (RpL.ext tk r e)
  | _, _, _, .dK h k r, e => .dK ((e _ List.mem_cons_self).trans h) k (RpL.ext tk r fun a ha => e a (List.mem_cons_of_mem _ ha))
  | _, _, _, .dT h ok hk k hv r, e => .dT ((e _ List.mem_cons_self).trans h) ok (fun u hu => tk.sqt (hk u hu)) k hv (RpL.ext tk r fun a ha => e a (List.mem_cons_of_mem _ ha))
  | _, _, _, .ins c h k r, e => .ins c ((e _ List.mem_cons_self).trans h) k (RpL.ext tk r fun a ha => e a (List.mem_cons_of_mem _ ha))
theorem RpL.ext (tk : TK H H') : ∀ {vs : List V} {ds : List D} {fp : List Addr}, RpL K cl H vs ds fp → (∀ a ∈ fp, H' a = H a) → RpL K cl H' vs ds fp
  | _, _, _, .nil, _ => .nil
  | _, _, _, .cons h r, e => .cons (Rp.ext tk h fun a ha => e a (List.mem_append_left _ ha)) (RpL.ext tk r fun a ha => e a (List.mem_append_right _ ha))
end
end


mutual
def D.flat : D → Bool
  | .non => true
  | .bl _ => true
  | .int _ => true
  | .str _ => true
  | .tup ds => D.flats ds
  | .lst _ => false
  | .dK _ => false
  | .dT _ => false
  | .ins _ _ => false
  | .fzl _ => false
  | .exn _ _ => false
def D.flats : List D → Bool
  | [] => true
  | d :: ds => d.flat && D.flats ds
end

theorem alloc_head {H : Hp} {b : Addr} {o : HO} (h : H b = some o) (m : isMut o) {fp : List Addr} (r : ∀ x ∈ fp, ∃ o, H x = some o ∧ isMut o) : ∀ x ∈ b :: fp, ∃ o, H x = some o ∧ isMut o := fun x e => by
  rcases List.mem_cons.mp e with q | q
  · exact ⟨o, by rw [q]; exact h, m⟩
  · exact r x q
section
variable {K : PySem.W.Frag} {cl : CE} {H H' : Hp}
mutual
theorem Rp.alloc : ∀ {v : V} {d : D} {fp : List Addr}, Rp K cl H v d fp → ∀ a ∈ fp, ∃ o, H a = some o ∧ isMut o
  | _, _, _, .non, _, h => by simp at h
  | _, _, _, .bl b, _, h => by simp at h
  | _, _, _, .int i, _, h => by simp at h
  | _, _, _, .str x, _, h => by simp at h
  | _, _, _, .tup h r, a, e => RpL.alloc r a e
  | _, _, _, .lst h r, a, e => alloc_head h True.intro (RpL.alloc r) a e
  | _, _, _, .lsf h r, a, e => RpL.alloc r a e
  | _, _, _, .dK h k r, a, e => alloc_head h True.intro (RpL.alloc r) a e
  | _, _, _, .dT h ok hk k hv r, a, e => alloc_head h True.intro (RpL.alloc r) a e
  | _, _, _, .ins c h k r, a, e => alloc_head h True.intro (RpL.alloc r) a e
theorem RpL.alloc : ∀ {vs : List V} {ds : List D} {fp : List Addr}, RpL K cl H vs ds fp → ∀ a ∈ fp, ∃ o, H a = some o ∧ isMut o
  | _, _, _, .nil, _, h => by simp at h
  | _, _, _, .cons h r, a, e => (List.mem_append.mp e).elim (fun q => Rp.alloc h a q) fun q => RpL.alloc r a q
end
mutual
theorem Rp.flat : ∀ {v : V} {d : D} {fp : List Addr}, Rp K cl H v d fp → d.flat = true → fp = []
  | _, _, _, .non, _ => rfl
  | _, _, _, .bl b, _ => rfl
  | _, _, _, .int i, _ => rfl
  | _, _, _, .str x, _ => rfl
  | _, _, _, .tup h r, e => RpL.flat r (by simpa [D.flat] using e)
  | _, _, _, .lst h r, e => by simp [D.flat] at e
  | _, _, _, .lsf h r, e => by simp [D.flat] at e
  | _, _, _, .dK h k r, e => by simp [D.flat] at e
  | _, _, _, .dT h ok hk k hv r, e => by simp [D.flat] at e
  | _, _, _, .ins c h k r, e => by simp [D.flat] at e
theorem RpL.flat : ∀ {vs : List V} {ds : List D} {fp : List Addr}, RpL K cl H vs ds fp → D.flats ds = true → fp = []
  | _, _, _, .nil, _ => rfl
  | _, _, _, .cons h r, e => by
    simp [D.flats] at e
    rw [Rp.flat h e.1, RpL.flat r e.2]
    rfl
end
mutual
/-- by other names -/
theorem Rp.ce {cl' : CE} (h1 : ∀ c C, cl.cl c C → cl'.cl c C) : ∀ {v : V} {d : D} {fp : List Addr}, Rp K cl H v d fp → Rp K cl' H v d fp
  | _, _, _, .non => .non
  | _, _, _, .bl b => .bl b
  | _, _, _, .int i => .int i
  | _, _, _, .str x => .str x
  | _, _, _, .tup h r => .tup h (RpL.ce h1 r)
  | _, _, _, .lst h r => .lst h (RpL.ce h1 r)
  | _, _, _, .lsf h r => .lsf h (RpL.ce h1 r)
  | _, _, _, .dK h k r => .dK h k (RpL.ce h1 r)
  | _, _, _, .dT h ok hk k hv r => .dT h ok hk k hv (RpL.ce h1 r)
  | _, _, _, .ins c h k r => .ins (h1 _ _ c) h k (RpL.ce h1 r)
theorem RpL.ce {cl' : CE} (h1 : ∀ c C, cl.cl c C → cl'.cl c C) : ∀ {vs : List V} {ds : List D} {fp : List Addr}, RpL K cl H vs ds fp → RpL K cl' H vs ds fp
  | _, _, _, .nil => .nil
  | _, _, _, .cons h r => .cons (Rp.ce h1 h) (RpL.ce h1 r)
end
theorem RpL.len : ∀ {vs : List V} {ds : List D} {fp : List Addr}, RpL K cl H vs ds fp → vs.length = ds.length
  | _, _, _, .nil => rfl
  | _, _, _, .cons h r => by simp [RpL.len r]
theorem RpL.get : ∀ {vs : List V} {ds : List D} {fp : List Addr} {i : Nat} {d : D}, RpL K cl H vs ds fp → ds[i]? = some d → ∃ v f, vs[i]? = some v ∧ Rp K cl H v d f ∧ f.Sublist fp
  | _, _, _, _, _, .nil, e => by simp at e
  | _, _, _, 0, _, .cons h r, e => by
    simp at e; subst e
    exact ⟨_, _, rfl, h, List.sublist_append_left _ _⟩
  | _, _, _, i + 1, _, .cons h r, e => by
    obtain ⟨v, f, a, b, c⟩ := RpL.get (i := i) r (by simpa using e)
    exact ⟨v, f, by simpa using a, b, c.trans (List.sublist_append_right _ _)⟩
theorem RpL.append : ∀ {vs ws : List V} {ds es : List D} {f g : List Addr}, RpL K cl H vs ds f → RpL K cl H ws es g → RpL K cl H (vs ++ ws) (ds ++ es) (f ++ g)
  | _, _, _, _, _, _, .nil, s => s
  | _, _, _, _, _, _, .cons h r, s => by
    rw [List.append_assoc]
    exact .cons h (RpL.append r s)
theorem RpL.one {v : V} {d : D} {f : List Addr} (h : Rp K cl H v d f) : RpL K cl H [v] [d] f := by
  have := RpL.cons h .nil
  rwa [List.append_nil] at this
theorem RpL.drop : ∀ {vs : List V} {ds : List D} {f : List Addr} (k : Nat), RpL K cl H vs ds f → ∃ g, RpL K cl H (vs.drop k) (ds.drop k) g ∧ g.Sublist f
  | _, _, _, 0, r => ⟨_, by simpa using r, List.Sublist.refl _⟩
  | _, _, _, k + 1, .nil => ⟨_, by simpa using RpL.nil, List.Sublist.refl _⟩
  | _, _, _, k + 1, .cons h r => by
    obtain ⟨g, a, b⟩ := RpL.drop k r
    exact ⟨g, by simpa using a, b.trans (List.sublist_append_right _ _)⟩
theorem RpL.take : ∀ {vs : List V} {ds : List D} {f : List Addr} (k : Nat), RpL K cl H vs ds f → ∃ g, RpL K cl H (vs.take k) (ds.take k) g ∧ g.Sublist f
  | _, _, _, 0, r => ⟨[], by simpa using RpL.nil, List.nil_sublist _⟩
  | _, _, _, k + 1, .nil => ⟨[], by simpa using RpL.nil, List.Sublist.refl _⟩
  | _, _, _, k + 1, .cons h r => by
    obtain ⟨g, a, b⟩ := RpL.take k r
    exact ⟨_, by simpa using RpL.cons h a, List.Sublist.append (List.Sublist.refl _) b⟩
theorem RpL.set : ∀ {vs : List V} {ds : List D} {f : List Addr} (i : Nat) {v : V} {d : D} {g : List Addr}, RpL K cl H vs ds f → Rp K cl H v d g → f.Nodup → g.Nodup → (∀ a ∈ g, a ∉ f) →
    ∃ f', RpL K cl H (vs.set i v) (ds.set i d) f' ∧ (∀ a ∈ f', a ∈ f ∨ a ∈ g) ∧ f'.Nodup
  | _, _, _, i, _, _, _, .nil, _, nf, _, _ => ⟨[], by simpa using RpL.nil, by simp, nf⟩
  | _, _, _, 0, _, _, g, .cons (f1 := f1) (f2 := f2) h r, s, nf, ng, dj => by
    refine ⟨g ++ f2, by simpa using RpL.cons s r, fun a ha => ?_, ?_⟩
    · rcases List.mem_append.mp ha with q | q
      · exact .inr q
      · exact .inl (List.mem_append_right _ q)
    · rw [List.nodup_append] at nf ⊢
      exact ⟨ng, nf.2.1, fun a ha b hb e => dj a ha (List.mem_append_right _ (e ▸ hb))⟩
  | _, _, _, i + 1, _, _, g, .cons (f1 := f1) (f2 := f2) h r, s, nf, ng, dj => by
    rw [List.nodup_append] at nf
    obtain ⟨f', a, b, c⟩ := RpL.set i r s nf.2.1 ng (fun x hx q => dj x hx (List.mem_append_right _ q))
    refine ⟨f1 ++ f', by simpa using RpL.cons h a, fun x hx => ?_, ?_⟩
    · rcases List.mem_append.mp hx with q | q
      · exact .inl (List.mem_append_left _ q)
      · rcases b x q with q | q
        · exact .inl (List.mem_append_right _ q)
        · exact .inr q
    · rw [List.nodup_append]
      refine ⟨nf.1, c, fun x hx y hy e => ?_⟩
      subst e
      rcases b x hy with q | q
      · exact nf.2.2 x hx x q rfl
      · exact dj x q (List.mem_append_left _ hx)
theorem RpL.erase : ∀ {vs : List V} {ds : List D} {f : List Addr} (i : Nat), RpL K cl H vs ds f → ∃ g, RpL K cl H (vs.eraseIdx i) (ds.eraseIdx i) g ∧ g.Sublist f
  | _, _, _, i, .nil => ⟨[], by simpa using RpL.nil, List.Sublist.refl _⟩
  | _, _, _, 0, .cons h r => ⟨_, by simpa using r, List.sublist_append_right _ _⟩
  | _, _, _, i + 1, .cons h r => by
    obtain ⟨g, a, b⟩ := RpL.erase i r
    exact ⟨_, by simpa using RpL.cons h a, List.Sublist.append (List.Sublist.refl _) b⟩
theorem RpL.nil_inv {vs : List V} {f : List Addr} (h : RpL K cl H vs [] f) : vs = [] ∧ f = [] := by
  cases h; exact ⟨rfl, rfl⟩
theorem RpL.cons_inv {vs : List V} {d : D} {ds : List D} {f : List Addr} (h : RpL K cl H vs (d :: ds) f) : ∃ v ws f1 f2, vs = v :: ws ∧ f = f1 ++ f2 ∧ Rp K cl H v d f1 ∧ RpL K cl H ws ds f2 := by
  cases h with
  | cons a b => exact ⟨_, _, _, _, rfl, rfl, a, b⟩
end

abbrev bw (R : List Lab) (l : Lab) : Prop := l = .fro ∨ l ∈ R
section
variable (K : PySem.W.Frag) (cl : CE)
/-- the exception that is handled: its class, what it bears -/
inductive RpE (H : Hp) : V → D → List Addr → Prop
  | e0 {a : Addr} {c : Str} (h : cl.ex c a none) (hp : pfOf c = none) : RpE H (.ref a) (.exn c .non) []
  | e1 {a dd : Addr} {c f : Str} {v : V} {p : D} {fp : List Addr} (h : cl.ex c a (some dd)) (hp : pfOf c = some f) (hd : H dd = some (.xd [(f, v)])) (r : Rp K cl H v p fp) : RpE H (.ref a) (.exn c p) (dd :: fp)
def VR (H : Hp) (lab : Labs) (k : Kd) (t : Lab) (v : V) (d : D) : Prop :=
  match k with
  | .own => ∃ fp, Rp K cl H v d fp ∧ fp.Nodup ∧ ∀ a ∈ fp, lab a = t
  | .bor R => ∃ fp, Rp K cl H v d fp ∧ ∀ a ∈ fp, bw R (lab a)
  | .spn R => ∃ a vs ds fp, v = .ref a ∧ d = .lst ds ∧ H a = some (.lst vs) ∧ RpL K cl H vs ds fp ∧ lab a = t ∧ ∀ b ∈ fp, b ≠ a ∧ bw R (lab b)
  | .exc R => ∃ fp, RpE K cl H v d fp ∧ (∀ a ∈ fp, bw R (lab a)) ∧ (Lab.out ∈ R → t ∈ R ∧ fp.tail.Nodup ∧ ∀ a ∈ fp, lab a = t)
end
theorem RpE.ext {K : PySem.W.Frag} {cl : CE} {H H' : Hp} (tk : TK H H') {v : V} {d : D} {fp : List Addr} (h : RpE K cl H v d fp) (e : ∀ a ∈ fp, H' a = H a) : RpE K cl H' v d fp := by
  cases h with
  | e0 h hp => exact .e0 h hp
  | e1 h hp hd r => exact .e1 h hp ((e _ List.mem_cons_self).trans hd) (r.ext tk fun a ha => e a (List.mem_cons_of_mem _ ha))
theorem RpE.alloc {K : PySem.W.Frag} {cl : CE} {H : Hp} {v : V} {d : D} {fp : List Addr} (h : RpE K cl H v d fp) : ∀ a ∈ fp, ∃ o, H a = some o ∧ isMut o := by
  cases h with
  | e0 h hp => simp
  | e1 h hp hd r => exact alloc_head hd True.intro r.alloc
theorem RpE.ce {K : PySem.W.Frag} {cl cl' : CE} {H : Hp} {v : V} {d : D} {fp : List Addr} (h : RpE K cl H v d fp) (h1 : ∀ c C, cl.cl c C → cl'.cl c C) (h2 : ∀ c a d, cl.ex c a d → cl'.ex c a d) : RpE K cl' H v d fp := by
  cases h with
  | e0 h hp => exact .e0 (h2 _ _ _ h) hp
  | e1 h hp hd r => exact .e1 (h2 _ _ _ h) hp hd (r.ce h1)
def keepL (m : List Nat) (n : Nat) : Lab → Bool
  | .out => true
  | .prm => true
  | .fro => true
  | .slt i => !m.contains i
  | .tmp j => decide (j < n)
def oldL : Lab → Bool
  | .out => true
  | .prm => true
  | _ => false
/-- what stays: all but the slots at m and what has come since n -/
structure Pres (m : List Nat) (n : Nat) (H : Hp) (lab : Labs) (H' : Hp) (lab' : Labs) : Prop where
  keep : ∀ a, H a ≠ none → keepL m n (lab a) = true → H' a = H a ∧ lab' a = lab a
  tk : TK H H'
  there : ∀ a, H a ≠ none → H' a ≠ none
  old : ∀ a, H' a ≠ none → oldL (lab' a) = true → H a ≠ none ∧ lab a = lab' a
theorem Pres.refl (m : List Nat) (n : Nat) (H : Hp) (lab : Labs) : Pres m n H lab H lab := ⟨fun _ _ _ => ⟨rfl, rfl⟩, TK.refl H, fun _ h => h, fun _ h _ => ⟨h, rfl⟩⟩
/-- (m, n) keeps no more than (m', n') -/
def SubK (m : List Nat) (n : Nat) (m' : List Nat) (n' : Nat) : Prop := ∀ l, keepL m n l = true → keepL m' n' l = true
theorem SubK.refl (m : List Nat) (n : Nat) : SubK m n m n := fun _ h => h
theorem SubK.trans {m m1 m2 : List Nat} {n n1 n2 : Nat} (a : SubK m n m1 n1) (b : SubK m1 n1 m2 n2) : SubK m n m2 n2 := fun l h => b l (a l h)
theorem SubK.of {m m' : List Nat} {n n' : Nat} (h : ∀ i ∈ m', i ∈ m) (hn : n ≤ n') : SubK m n m' n' := fun l => by
  cases l with
  | slt i =>
    simp only [keepL, Bool.not_eq_true', List.contains_eq_mem, decide_eq_false_iff_not]
    exact fun q z => q (h i z)
  | tmp j =>
    simp only [keepL, decide_eq_true_eq]
    omega
  | _ => exact fun q => q
theorem SubK.left (m m' : List Nat) (n : Nat) : SubK (m ++ m') n m n := .of (fun _ h => List.mem_append_left _ h) (Nat.le_refl _)
theorem SubK.right (m m' : List Nat) (n : Nat) : SubK (m ++ m') n m' n := .of (fun _ h => List.mem_append_right _ h) (Nat.le_refl _)
theorem SubK.up (m : List Nat) (n : Nat) : SubK m n m (n + 1) := .of (fun _ h => h) (Nat.le_succ _)
theorem SubK.nil (m : List Nat) (n : Nat) : SubK m n [] n := .of (fun _ h => by simp at h) (Nat.le_refl _)
theorem Pres.trans {m m1 m2 : List Nat} {n n1 n2 : Nat} {H H1 H2 : Hp} {lab lab1 lab2 : Labs} (a : Pres m1 n1 H lab H1 lab1) (b : Pres m2 n2 H1 lab1 H2 lab2) (s1 : SubK m n m1 n1) (s2 : SubK m n m2 n2) : Pres m n H lab H2 lab2 where
  keep := fun x hx hk => by
    obtain ⟨e1, e2⟩ := a.keep x hx (s1 _ hk)
    obtain ⟨e3, e4⟩ := b.keep x (a.there x hx) (by rw [e2]; exact s2 _ hk)
    exact ⟨e3.trans e1, e4.trans e2⟩
  tk := a.tk.trans b.tk
  there := fun x hx => b.there x (a.there x hx)
  old := fun x hx ho => by
    obtain ⟨e1, e2⟩ := b.old x hx ho
    obtain ⟨e3, e4⟩ := a.old x e1 (by rw [e2]; exact ho)
    exact ⟨e3, e4.trans e2⟩
theorem Pres.mono {m m1 : List Nat} {n n1 : Nat} {H H1 : Hp} {lab lab1 : Labs} (a : Pres m1 n1 H lab H1 lab1) (s : SubK m n m1 n1) : Pres m n H lab H1 lab1 := ⟨fun x hx hk => a.keep x hx (s _ hk), a.tk, a.there, a.old⟩
abbrev setL (lab : Labs) (p : Addr) (t : Lab) : Labs := fun b => if b = p then t else lab b
/-- a new object -/
theorem Pres.alloc {m : List Nat} {n : Nat} {H : Hp} {lab : Labs} {p : Addr} {o : HO} {t : Lab} (hp : H p = none) (ht : oldL t = false) : Pres m n H lab (upd H p o) (setL lab p t) where
  keep := fun x hx _ => by
    have : x ≠ p := fun e => hx (by rw [e]; exact hp)
    exact ⟨upd_ne this, if_neg this⟩
  tk := TK.new hp
  there := fun x hx => by rw [upd_ne (fun e => hx (by rw [e]; exact hp))]; exact hx
  old := fun x hx ho => by
    by_cases e : x = p
    · subst e
      simp only [setL, if_true] at ho
      rw [ht] at ho; cases ho
    · simp only [setL, if_neg e] at ho ⊢
      rw [upd_ne e] at hx
      exact ⟨hx, trivial⟩
/-- other labels for what need not stay -/
theorem Pres.relab {m : List Nat} {n : Nat} {H : Hp} {lab lab' : Labs} (h : ∀ a, keepL m n (lab a) = true → lab' a = lab a) (h2 : ∀ a, oldL (lab' a) = true → lab a = lab' a) : Pres m n H lab H lab' :=
  ⟨fun a _ k => ⟨rfl, h a k⟩, TK.refl H, fun _ q => q, fun a q o => ⟨q, h2 a o⟩⟩
/-- an object of one's own is changed -/
theorem Pres.mut {m : List Nat} {n : Nat} {H : Hp} {lab : Labs} {p : Addr} {u o : HO} (hp : H p = some u) (mu : isMut u) (hk : keepL m n (lab p) = false) : Pres m n H lab (upd H p o) lab where
  keep := fun x hx k => by
    have : x ≠ p := fun e => by subst e; rw [hk] at k; cases k
    exact ⟨upd_ne this, rfl⟩
  tk := TK.mut hp mu
  there := fun x hx => by
    by_cases e : x = p
    · subst e; rw [upd_same]; simp
    · rw [upd_ne e]; exact hx
  old := fun x hx ho => by
    by_cases e : x = p
    · subst e; exact ⟨by rw [hp]; simp, rfl⟩
    · rw [upd_ne e] at hx; exact ⟨hx, rfl⟩
/-- does the value stay -/
def okK (m : List Nat) (n : Nat) : Kd → Bool
  | .own => true
  | .bor R => R.all (keepL m n)
  | .spn R => R.all (keepL m n)
  | .exc R => R.all (keepL m n)
section
variable {K : PySem.W.Frag} {cl : CE} {H H' : Hp} {lab lab' : Labs} {m : List Nat} {n : Nat} {k : Kd} {t : Lab} {v : V} {d : D}
theorem bw_keep {R : List Lab} (h : R.all (keepL m n) = true) {l : Lab} (b : bw R l) : keepL m n l = true := by
  rcases b with rfl | b
  · rfl
  · exact List.all_eq_true.mp h _ b
theorem VR.pres (p : Pres m n H lab H' lab') (h : VR K cl H lab k t v d) (ok : okK m n k = true) (ht : keepL m n t = true) : VR K cl H' lab' k t v d := by
  cases k with
  | own =>
    obtain ⟨fp, r, nd, l⟩ := h
    have e : ∀ a ∈ fp, H' a = H a ∧ lab' a = lab a := fun a ha => p.keep a (by obtain ⟨o, e, _⟩ := r.alloc a ha; rw [e]; simp) (by rw [l a ha]; exact ht)
    exact ⟨fp, r.ext p.tk fun a ha => (e a ha).1, nd, fun a ha => (e a ha).2.trans (l a ha)⟩
  | bor R =>
    obtain ⟨fp, r, l⟩ := h
    have e : ∀ a ∈ fp, H' a = H a ∧ lab' a = lab a := fun a ha => p.keep a (by obtain ⟨o, e, _⟩ := r.alloc a ha; rw [e]; simp) (bw_keep ok (l a ha))
    exact ⟨fp, r.ext p.tk fun a ha => (e a ha).1, fun a ha => by rw [(e a ha).2]; exact l a ha⟩
  | spn R =>
    obtain ⟨a, vs, ds, fp, rfl, rfl, ha, r, la, l⟩ := h
    have e0 := p.keep a (by rw [ha]; simp) (by rw [la]; exact ht)
    have e : ∀ b ∈ fp, H' b = H b ∧ lab' b = lab b := fun b hb => p.keep b (by obtain ⟨o, e, _⟩ := r.alloc b hb; rw [e]; simp) (bw_keep ok (l b hb).2)
    exact ⟨a, vs, ds, fp, rfl, rfl, e0.1.trans ha, r.ext p.tk fun b hb => (e b hb).1, e0.2.trans la, fun b hb => ⟨(l b hb).1, by rw [(e b hb).2]; exact (l b hb).2⟩⟩
  | exc R =>
    obtain ⟨fp, r, l, u⟩ := h
    have e : ∀ a ∈ fp, H' a = H a ∧ lab' a = lab a := fun a ha => p.keep a (by obtain ⟨o, e, _⟩ := r.alloc a ha; rw [e]; simp) (bw_keep ok (l a ha))
    exact ⟨fp, r.ext p.tk fun a ha => (e a ha).1, fun a ha => by rw [(e a ha).2]; exact l a ha, fun z => ⟨(u z).1, (u z).2.1, fun a ha => by rw [(e a ha).2]; exact (u z).2.2 a ha⟩⟩
/-- no exception -/
def D.noE : D → Bool
  | .exn _ _ => false
  | _ => true
/-- whatever it is held by: it is d -/
theorem VR.rp (h : VR K cl H lab k t v d) (hn : d.noE = true := by rfl) : ∃ fp, Rp K cl H v d fp := by
  cases k with
  | own => obtain ⟨fp, r, _⟩ := h; exact ⟨fp, r⟩
  | bor R => obtain ⟨fp, r, _⟩ := h; exact ⟨fp, r⟩
  | spn R => obtain ⟨a, vs, ds, fp, rfl, rfl, ha, r, _⟩ := h; exact ⟨_, .lst ha r⟩
  | exc R => obtain ⟨fp, r, _⟩ := h; cases r <;> cases hn
theorem VR.int {i : Int} (h : VR K cl H lab k t v (.int i)) : v = .int i := by
  obtain ⟨fp, r⟩ := h.rp
  cases r; rfl
theorem VR.bl {b : Bool} (h : VR K cl H lab k t v (.bl b)) : v = .bl b := by
  obtain ⟨fp, r⟩ := h.rp
  cases r; rfl
theorem VR.str {x : Str} (h : VR K cl H lab k t v (.str x)) : v = .str x := by
  obtain ⟨fp, r⟩ := h.rp
  cases r; rfl
theorem VR.non (h : VR K cl H lab k t v .non) : v = .non := by
  obtain ⟨fp, r⟩ := h.rp
  cases r; rfl
theorem VR.of_nil (r : Rp K cl H v d []) : VR K cl H lab .own t v d := ⟨[], r, List.nodup_nil, fun a ha => by simp at ha⟩
theorem VR.ce {cl' : CE} (h : VR K cl H lab k t v d) (h1 : ∀ c C, cl.cl c C → cl'.cl c C) (h2 : ∀ c a d, cl.ex c a d → cl'.ex c a d) : VR K cl' H lab k t v d := by
  cases k with
  | own => obtain ⟨fp, r, q⟩ := h; exact ⟨fp, r.ce h1, q⟩
  | bor R => obtain ⟨fp, r, q⟩ := h; exact ⟨fp, r.ce h1, q⟩
  | spn R => obtain ⟨a, vs, ds, fp, e1, e2, ha, r, q⟩ := h; exact ⟨a, vs, ds, fp, e1, e2, ha, r.ce h1, q⟩
  | exc R => obtain ⟨fp, r, q⟩ := h; exact ⟨fp, r.ce h1 h2, q⟩
theorem VR.flat (h : VR K cl H lab k t v d) (f : d.flat = true) {t' : Lab} : VR K cl H' lab' .own t' v d ∨ True := .inr True.intro
theorem VR.flat_own (h : VR K cl H lab k t v d) (f : d.flat = true) {t' : Lab} : VR K cl H lab .own t' v d := by
  obtain ⟨fp, r⟩ := h.rp (by cases d <;> first | rfl | cases f)
  have e := r.flat f
  subst e
  exact .of_nil r
end
end Ow


namespace Ow
open PySem PySem.Spec PyProof.Rows L2
abbrev St := L2.St
/-- in a def of the module -/
abbrev clM (mg : Str → Option Value) : CE := ⟨fun c C => mg c = some (.ref C), fun _ _ _ => False⟩
abbrev clX (X : Cx) : CE := ⟨fun c C => X.mg c = some (.ref C), fun c a dd => X.calm = false ∧ ∃ oe vs C, X.pn.head? = some (a, oe) ∧ oe.data = .fields vs ∧ X.mg c = some (.ref C) ∧ Zc (.ref C) dd oe⟩
/-- the slots' values -/
structure SR (X : Cx) (Γ : Ctx) (σ : St) (H : Hp) (lab : Labs) (σD : List D) : Prop where
  l1 : σ.length = X.N.length
  l2 : σD.length = X.N.length
  at_ : ∀ (i : Nat) k, Γ[i]? = some (some k) → ∃ v d, σ[i]? = some (some v) ∧ σD[i]? = some d ∧ VR X.K (clX X) H lab k (.slt i) v d
/-- no slot leans on what comes later -/
def gok (Γ : Ctx) (n : Nat) : Bool := Γ.all fun k => match k with
  | none => true
  | some k => okK [] n k
theorem gok.at_ {Γ : Ctx} {n : Nat} (h : gok Γ n = true) {i : Nat} {k : Kd} (e : Γ[i]? = some (some k)) : okK [] n k = true :=
  List.all_eq_true.mp h _ (List.mem_of_getElem? e)
theorem keepL.up {m : List Nat} {n : Nat} {l : Lab} (h : keepL m n l = true) : keepL m (n + 1) l = true := by
  cases l with
  | tmp j => simp only [keepL, decide_eq_true_eq] at h ⊢; omega
  | _ => exact h
theorem okK.up {m : List Nat} {n : Nat} {k : Kd} (h : okK m n k = true) : okK m (n + 1) k = true := by
  cases k with
  | own => rfl
  | bor R => exact List.all_eq_true.mpr fun x hx => keepL.up (List.all_eq_true.mp h x hx)
  | spn R => exact List.all_eq_true.mpr fun x hx => keepL.up (List.all_eq_true.mp h x hx)
  | exc R => exact List.all_eq_true.mpr fun x hx => keepL.up (List.all_eq_true.mp h x hx)
theorem gok.up {Γ : Ctx} {n : Nat} (h : gok Γ n = true) : gok Γ (n + 1) = true := List.all_eq_true.mpr fun k hk => by
  have := List.all_eq_true.mp h k hk
  cases k with
  | none => rfl
  | some k => exact okK.up this
/-- the slots that live are not at m, nor lean on those -/
def gokm (Γ : Ctx) (m : List Nat) (n : Nat) : Bool := (List.range Γ.length).all fun i => match Γ[i]? with
  | some (some k) => okK m n k && !m.contains i
  | _ => true
theorem gokm.at_ {Γ : Ctx} {m : List Nat} {n : Nat} (h : gokm Γ m n = true) {i : Nat} {k : Kd} (e : Γ[i]? = some (some k)) : okK m n k = true ∧ keepL m n (.slt i) = true := by
  have := List.all_eq_true.mp h i (List.mem_range.mpr (List.getElem?_eq_some_iff.mp e).1)
  rw [e] at this
  rw [Bool.and_eq_true] at this
  exact this
section
variable {X : Cx} {Γ : Ctx} {σ : St} {H H' : Hp} {lab lab' : Labs} {σD : List D} {m : List Nat} {n : Nat}
theorem SR.pres (s : SR X Γ σ H lab σD) (g : gok Γ n = true) (p : Pres [] n H lab H' lab') : SR X Γ σ H' lab' σD :=
  ⟨s.l1, s.l2, fun i k e => by
    obtain ⟨v, d, a, b, c⟩ := s.at_ i k e
    exact ⟨v, d, a, b, c.pres p (gok.at_ g e) rfl⟩⟩
theorem SR.presm (s : SR X Γ σ H lab σD) (g : gokm Γ m n = true) (p : Pres m n H lab H' lab') : SR X Γ σ H' lab' σD :=
  ⟨s.l1, s.l2, fun i k e => by
    obtain ⟨v, d, a, b, c⟩ := s.at_ i k e
    obtain ⟨g1, g2⟩ := gokm.at_ g e
    exact ⟨v, d, a, b, c.pres p g1 g2⟩⟩
theorem SR.get (s : SR X Γ σ H lab σD) {i : Nat} {k : Kd} (e : Γ[i]? = some (some k)) : ∃ v, σ[i]? = some (some v) ∧ VR X.K (clX X) H lab k (.slt i) v (σD.getD i .non) := by
  obtain ⟨v, d, a, b, c⟩ := s.at_ i k e
  refine ⟨v, a, ?_⟩
  rw [List.getD_eq_getElem?_getD, b]
  exact c
end

inductive ER (α : Type) where
  | stuck | ok (a : α) (σ : List D) | exc (c : Str) (p : D) (σ : List D)
def ER.bind {α β : Type} (r : ER α) (f : α → List D → ER β) : ER β := match r with
  | .stuck => .stuck
  | .ok a σ => f a σ
  | .exc c p σ => .exc c p σ
def ofO {α : Type} (o : Option α) (σ : List D) : ER α := match o with
  | some a => .ok a σ
  | none => .stuck
@[simp] theorem ER.bind_ok {α β : Type} (a : α) (σ : List D) (f : α → List D → ER β) : (ER.ok a σ).bind f = f a σ := rfl
@[simp] theorem ER.bind_stuck {α β : Type} (f : α → List D → ER β) : (ER.stuck : ER α).bind f = .stuck := rfl
@[simp] theorem ER.bind_exc {α β : Type} (c : Str) (p : D) (σ : List D) (f : α → List D → ER β) : (ER.exc c p σ : ER α).bind f = .exc c p σ := rfl
@[simp] theorem ofO_some {α : Type} (a : α) (σ : List D) : ofO (some a) σ = .ok a σ := rfl
@[simp] theorem ofO_none {α : Type} (σ : List D) : ofO (none : Option α) σ = .stuck := rfl
def PayOk (X : Cx) (H : Hp) (lab : Labs) (n : Nat) (c : Str) (p : D) (dd : Option Addr) : Prop := match pfOf c with
  | none => p = .non ∧ dd = none
  | some f => ∃ (d : Addr) (v : V) (j : Nat), dd = some d ∧ H d = some (.xd [(f, v)]) ∧ lab d = .tmp j ∧ n ≤ j ∧ VR X.K (clX X) H lab .own (.tmp j) v p
abbrev Rel (β α : Type) := List D → Hp → Labs → β → α → Prop
section
variable {α β γ δ : Type}
/-- what a part's outcome asks of what follows -/
def Post (X : Cx) (W : WX) (Γx Γ : Ctx) (σ : St) (m : List Nat) (n : Nat) (rel : Rel β α) (H : Hp) (lab : Labs) (Q : β → Hp → Prop) : ER α → Prop
  | .stuck => False
  | .ok a σD' => ∀ b H' lab', SR X Γ σ H' lab' σD' → Pres m n H lab H' lab' → rel σD' H' lab' b a → Q b H'
  | .exc c p σD' => ∀ H' lab' C dd, X.mg c = some (.ref C) → SR X Γx σ H' lab' σD' → Pres m n H lab H' lab' → PayOk X H' lab' n c p dd → W (.ref C) dd σ H'
variable {X : Cx} {W : WX} {Γx Γ : Ctx} {σ : St} {m m1 m2 : List Nat} {n n1 n2 : Nat} {H H1 : Hp} {lab lab1 : Labs}
theorem PayOk.mono {H : Hp} {lab : Labs} {c : Str} {p : D} {dd : Option Addr} (h : PayOk X H lab n1 c p dd) (hn : n ≤ n1) : PayOk X H lab n c p dd := by
  unfold PayOk at h ⊢
  split at h
  · exact h
  · obtain ⟨d, v, j, a, b, l, c, e⟩ := h
    exact ⟨d, v, j, a, b, l, Nat.le_trans hn c, e⟩
/-- one part, then the rest -/
theorem Post.seq {rel : Rel β α} {rel1 : Rel δ γ} {Q : β → Hp → Prop} {Q1 : δ → Hp → Prop} {r : ER γ} {f : γ → List D → ER α} (h : Post X W Γx Γ σ m n rel H lab Q (r.bind f)) (s1 : SubK m n m1 n1) (h1 : n ≤ n1) (s2 : SubK m n m2 n2) (h2 : n ≤ n2)
    (k : ∀ a σD1 b H1 lab1, SR X Γ σ H1 lab1 σD1 → Pres m1 n1 H lab H1 lab1 → rel1 σD1 H1 lab1 b a → Post X W Γx Γ σ m2 n2 rel H1 lab1 Q (f a σD1) → Q1 b H1) : Post X W Γx Γ σ m1 n1 rel1 H lab Q1 r := by
  cases r with
  | stuck => exact h.elim
  | ok a σD1 =>
    intro b H1 lab1 sr pr rl
    refine k a σD1 b H1 lab1 sr pr rl ?_
    have h : Post X W Γx Γ σ m n rel H lab Q (f a σD1) := h
    cases e : f a σD1 with
    | stuck => rw [e] at h; exact h.elim
    | ok a2 σD2 =>
      rw [e] at h
      intro b2 H2 lab2 sr2 pr2 rl2
      exact h b2 H2 lab2 sr2 (pr.trans pr2 s1 s2) rl2
    | exc c p σD2 =>
      rw [e] at h
      intro H2 lab2 C dd hc sr2 pr2 py
      exact h H2 lab2 C dd hc sr2 (pr.trans pr2 s1 s2) (py.mono h2)
  | exc c p σD1 =>
    intro H1 lab1 C dd hc sr pr py
    have h : Post X W Γx Γ σ m n rel H lab Q (.exc c p σD1) := h
    exact h H1 lab1 C dd hc sr (pr.mono s1) (py.mono h1)
/-- .. the common case -/
theorem Post.seq' {rel : Rel β α} {rel1 : Rel δ γ} {Q : β → Hp → Prop} {Q1 : δ → Hp → Prop} {r : ER γ} {f : γ → List D → ER α} (h : Post X W Γx Γ σ (m1 ++ m2) n rel H lab Q (r.bind f))
    (k : ∀ a σD1 b H1 lab1, SR X Γ σ H1 lab1 σD1 → Pres m1 n H lab H1 lab1 → rel1 σD1 H1 lab1 b a → Post X W Γx Γ σ m2 n rel H1 lab1 Q (f a σD1) → Q1 b H1) : Post X W Γx Γ σ m1 n rel1 H lab Q1 r :=
  h.seq (SubK.left _ _ _) (Nat.le_refl _) (SubK.right _ _ _) (Nat.le_refl _) k
/-- .. the last part -/
theorem Post.last {rel : Rel β α} {rel1 : Rel δ γ} {Q : β → Hp → Prop} {Q1 : δ → Hp → Prop} {r : ER γ} {f : γ → List D → ER α} (h : Post X W Γx Γ σ m n rel H lab Q (r.bind f))
    (k : ∀ a σD1 b H1 lab1, SR X Γ σ H1 lab1 σD1 → Pres m n H lab H1 lab1 → rel1 σD1 H1 lab1 b a → Post X W Γx Γ σ [] n rel H1 lab1 Q (f a σD1) → Q1 b H1) : Post X W Γx Γ σ m n rel1 H lab Q1 r :=
  h.seq (SubK.refl _ _) (Nat.le_refl _) (SubK.nil _ _) (Nat.le_refl _) k
theorem Post.imp {rel rel' : Rel β α} {Q Q' : β → Hp → Prop} {r : ER α} (h : Post X W Γx Γ σ m n rel H lab Q r) (hr : ∀ a σD' H' b lab', SR X Γ σ H' lab' σD' → Pres m1 n1 H lab H' lab' → rel' σD' H' lab' b a → (∀ b H' lab', SR X Γ σ H' lab' σD' → Pres m n H lab H' lab' → rel σD' H' lab' b a → Q b H') → Q' b H') (s : SubK m n m1 n1) (hn : n ≤ n1) : Post X W Γx Γ σ m1 n1 rel' H lab Q' r := by
  cases r with
  | stuck => exact h.elim
  | ok a σD' => exact fun b H' lab' sr pr rl => hr a σD' H' b lab' sr pr rl h
  | exc c p σD' => exact fun H' lab' C dd hc sr pr py => h H' lab' C dd hc sr (pr.mono s) (py.mono hn)
theorem Post.done {rel : Rel β α} {Q : β → Hp → Prop} {σD : List D} {o : Option α} (h : Post X W Γx Γ σ m n rel H lab Q (ofO o σD)) : ∃ z, o = some z ∧ ∀ b H' lab', SR X Γ σ H' lab' σD → Pres m n H lab H' lab' → rel σD H' lab' b z → Q b H' := by
  cases o with
  | none => exact h.elim
  | some z => exact ⟨z, rfl, h⟩
end

section
variable (X : Cx) (W : WX) (Γx Γ : Ctx) (n : Nat) (m : List Nat)
abbrev relE (X : Cx) (n : Nat) (k : Kd) : Rel V D := fun _ H lab v d => VR X.K (clX X) H lab k (.tmp n) v d
abbrev relT : Rel Bool Bool := fun _ _ _ b a => b = a
def rdE (k : Kd) (g : List D → ER D) : TE := fun σ H Q => ∃ σD lab, gok Γ n = true ∧ SR X Γ σ H lab σD ∧ Post X W Γx Γ σ m n (relE X n k) H lab Q (g σD)
def rdT (g : List D → ER Bool) : TT := fun σ H Q => ∃ σD lab, gok Γ n = true ∧ SR X Γ σ H lab σD ∧ Post X W Γx Γ σ m n relT H lab Q (g σD)
abbrev EJ (e : Expr) (g : List D → ER D) (k : Kd) : Prop := PE X e (rdE X W Γx Γ n m k g)
abbrev TJ (e : Expr) (g : List D → ER Bool) : Prop := PT X e (rdT X W Γx Γ n m g)
end
theorem pe_imp {X : Cx} {e : Expr} {t u : TE} (h : PE X e t) (i : ∀ σ H Q, u σ H Q → t σ H Q) : PE X e u := ⟨fun pins s σ H Q I q => h.run pins s σ H Q I (i σ H Q q)⟩
theorem pt_imp {X : Cx} {e : Expr} {t u : TT} (h : PT X e t) (i : ∀ σ H Q, u σ H Q → t σ H Q) : PT X e u := ⟨fun pins s σ H Q I q => h.run pins s σ H Q I (i σ H Q q)⟩
theorem pa_imp {X : Cx} {e : List Expr} {t u : TA} (h : PA X e t) (i : ∀ σ H Q, u σ H Q → t σ H Q) : PA X e u := ⟨fun pos pins s σ H Q I q => h.run pos pins s σ H Q I (i σ H Q q)⟩
theorem ps_imp {X : Cx} {e : Stmt} {t u : TS} (h : PS X e t) (i : ∀ D σ H, u D σ H → t D σ H) : PS X e u := ⟨fun pins s σ H D I q => h.run pins s σ H D I (i D σ H q)⟩
theorem pss_imp {X : Cx} {e : List Stmt} {t u : TS} (h : PSs X e t) (i : ∀ D σ H, u D σ H → t D σ H) : PSs X e u := ⟨fun pins s σ H D I q => h.run pins s σ H D I (i D σ H q)⟩

def borK (i : Nat) : Kd → Kd
  | .own => .bor [.slt i]
  | .bor R => .bor R
  | .spn R => .bor (.slt i :: R)
  | .exc R => .exc (R.filter fun l => decide (l ≠ .out))
section
variable {X : Cx} {W : WX} {Γx Γ : Ctx} {n : Nat} {m m1 m2 : List Nat} {pos : Pos}
theorem VR.borrow {K : PySem.W.Frag} {cl : CE} {H : Hp} {lab : Labs} {k : Kd} {i : Nat} {v : V} {d : D} {t : Lab} (h : VR K cl H lab k (.slt i) v d) : VR K cl H lab (borK i k) t v d := by
  cases k with
  | own =>
    obtain ⟨fp, r, _, l⟩ := h
    exact ⟨fp, r, fun a ha => .inr (by rw [l a ha]; exact List.mem_cons_self)⟩
  | bor R => exact h
  | spn R =>
    obtain ⟨a, vs, ds, fp, rfl, rfl, ha, r, la, l⟩ := h
    refine ⟨_, .lst ha r, fun b hb => ?_⟩
    rcases List.mem_cons.mp hb with q | q
    · exact .inr (by rw [q, la]; exact List.mem_cons_self)
    · exact (l b q).2.elim .inl fun z => .inr (List.mem_cons_of_mem _ z)
  | exc R =>
    obtain ⟨fp, r, l, u⟩ := h
    refine ⟨fp, r, fun a ha => ?_, fun z => by simp at z⟩
    by_cases z : Lab.out ∈ R
    · obtain ⟨u1, _, u3⟩ := u z
      exact .inr (List.mem_filter.mpr ⟨by rw [u3 a ha]; exact u1, by rw [u3 a ha]; rfl⟩)
    · rcases l a ha with e | e
      · exact .inl e
      · exact .inr (List.mem_filter.mpr ⟨e, decide_eq_true fun q => z (q ▸ e)⟩)
def eVar (i : Nat) : List D → ER D := fun σ => .ok (σ.getD i .non) σ
theorem ej_var {i : Nat} {x : Str} {k : Kd} (hΓ : Γ[i]? = some (some k)) (h : PE X (.Name x pos) (tVar i)) : EJ X W Γx Γ n [] (.Name x pos) (eVar i) (borK i k) := by
  refine pe_imp h fun σ H Q hq => ?_
  obtain ⟨σD, lab, g, sr, po⟩ := hq
  obtain ⟨v, hv, hr⟩ := sr.get hΓ
  exact ⟨v, hv, po v H lab sr (.refl _ _ _ _) hr.borrow⟩
def eC (d : D) : List D → ER D := fun σ => .ok d σ
theorem ej_c {e : Expr} {v : V} {d : D} (h : PE X e (tC v)) (r : ∀ H, Rp X.K (clX X) H v d []) : EJ X W Γx Γ n [] e (eC d) .own := by
  refine pe_imp h fun σ H Q hq => ?_
  obtain ⟨σD, lab, g, sr, po⟩ := hq
  exact po v H lab sr (.refl _ _ _ _) (.of_nil (r H))
theorem ej_int {i : Int} {j} : EJ X W Γx Γ n [] (.Constant (.int i) j pos) (eC (.int i)) .own := ej_c pe_int fun _ => .int i
theorem ej_bl {b : Bool} {j} : EJ X W Γx Γ n [] (.Constant (.bool b) j pos) (eC (.bl b)) .own := ej_c pe_bl fun _ => .bl b
theorem ej_non {j} : EJ X W Γx Γ n [] (.Constant .none j pos) (eC .non) .own := ej_c pe_non fun _ => .non
theorem ej_str {x : Str} {j} : EJ X W Γx Γ n [] (.Constant (.str x) j pos) (eC (.str x)) .own := ej_c pe_str fun _ => .str x

inductive SV : V → D → Prop
  | non : SV .non .non
  | bl (b : Bool) : SV (.bl b) (.bl b)
  | int (i : Int) : SV (.int i) (.int i)
  | str (x : Str) : SV (.str x) (.str x)
theorem SV.vr {K : PySem.W.Frag} {cl : CE} {H : Hp} {lab : Labs} {v : V} {d : D} {t : Lab} (h : SV v d) : VR K cl H lab .own t v d := by
  cases h
  · exact .of_nil .non
  · exact .of_nil (.bl _)
  · exact .of_nil (.int _)
  · exact .of_nil (.str _)
def eBin (f : D → D → Option D) (ga gb : List D → ER D) : List D → ER D := fun σ => (ga σ).bind fun x σ1 => (gb σ1).bind fun y σ2 => ofO (f x y) σ2
/-- f is what the operation r does, on scalars -/
def ScalOp (f : D → D → Option D) (r : R2) : Prop := ∀ x y z, f x y = some z → ∃ zv, SV zv z ∧ ∀ (K : PySem.W.Frag) (cl : CE) (H H1 H2 : Hp) (lab lab1 : Labs) (k k1 : Kd) (t t1 : Lab) (v w : V) (Q : VK), VR K cl H lab k t v x → VR K cl H1 lab1 k1 t1 w y → Q zv H2 → r v w H2 Q
theorem bin_imp {f : D → D → Option D} {r : R2} {ta tb : TE} {ga gb : List D → ER D} {k k1 : Kd} (hf : ScalOp f r) (ha : ∀ σ H Q, rdE X W Γx Γ n m1 k ga σ H Q → ta σ H Q) (hb : ∀ σ H Q, rdE X W Γx Γ n m2 k1 gb σ H Q → tb σ H Q) (σ : St) (H : Hp) (Q : VK) (h : rdE X W Γx Γ n (m1 ++ m2) .own (eBin f ga gb) σ H Q) : tOp r ta tb σ H Q := by
  obtain ⟨σD, lab, g, sr, po⟩ := h
  refine ha _ _ _ ⟨σD, lab, g, sr, po.seq' fun x σD1 v H1 lab1 sr1 pr1 rl1 po1 => ?_⟩
  refine hb _ _ _ ⟨σD1, lab1, g, sr1, po1.last fun y σD2 w H2 lab2 sr2 pr2 rl2 po2 => ?_⟩
  obtain ⟨z, e, q⟩ := po2.done
  obtain ⟨zv, sv, hr⟩ := hf x y z e
  exact hr _ _ _ _ _ _ _ _ _ _ _ _ _ _ rl1 rl2 (q zv _ _ sr2 (.refl _ _ _ _) sv.vr)
theorem ej_bin {a b : Expr} {op : Operator} {f : D → D → Option D} {r : R2} {ga gb : List D → ER D} {k k1 : Kd} (hf : ScalOp f r) (ho : OpR X (binaryOp op) r) (ha : EJ X W Γx Γ n m1 a ga k) (hb : EJ X W Γx Γ n m2 b gb k1) : EJ X W Γx Γ n (m1 ++ m2) (.BinOp a op b pos) (eBin f ga gb) .own :=
  pe_imp (pe_op ho ha hb) fun σ H Q h => bin_imp hf (fun _ _ _ q => q) (fun _ _ _ q => q) σ H Q h
theorem ej_cmp {a b : Expr} {op : CmpOp} {f : D → D → Option D} {r : R2} {ga gb : List D → ER D} {k k1 : Kd} (hf : ScalOp f r) (ho : OpR X (compareOp op) r) (ha : EJ X W Γx Γ n m1 a ga k) (hb : EJ X W Γx Γ n m2 b gb k1) (hm : behindInMarks op b = false) : EJ X W Γx Γ n (m1 ++ m2) (.Compare a [op] [b] pos) (eBin f ga gb) .own :=
  pe_imp (pe_cmpR ho ha hb hm) fun σ H Q h => bin_imp hf (fun _ _ _ q => q) (fun _ _ _ q => q) σ H Q h
end
end Ow


namespace Ow
open PySem PySem.Spec PyProof.Rows L2
def mulOk (i j : Int) : Bool := decide (-(2 ^ 64) < i ∧ i < 2 ^ 64) || decide (-(2 ^ 64) < j ∧ j < 2 ^ 64) || decide (i.natAbs.log2 + j.natAbs.log2 < 1000000)
def divOk (j : Int) : Bool := decide (j ≠ 0) && decide (j.natAbs.log2 < 9000)
def powOk (i j : Int) : Bool := decide (0 ≤ j) && decide (j ≤ 1000000) && decide (i.natAbs < 2 ^ 64)
def dAdd : D → D → Option D
  | .int i, .int j => some (.int (i + j))
  | _, _ => none
def dSub : D → D → Option D
  | .int i, .int j => some (.int (i - j))
  | _, _ => none
def dMul : D → D → Option D
  | .int i, .int j => if mulOk i j = true then some (.int (i * j)) else none
  | _, _ => none
def dDiv : D → D → Option D
  | .int i, .int j => if divOk j = true then some (.int (i.fdiv j)) else none
  | _, _ => none
def dMod : D → D → Option D
  | .int i, .int j => if j ≠ 0 then some (.int (i.fmod j)) else none
  | _, _ => none
def dPow : D → D → Option D
  | .int i, .int j => if powOk i j = true then some (.int (i ^ j.toNat)) else none
  | _, _ => none
def dLt : D → D → Option D
  | .int i, .int j => some (.bl (decide (i < j)))
  | _, _ => none
def dLe : D → D → Option D
  | .int i, .int j => some (.bl (decide (i ≤ j)))
  | _, _ => none
def dGt : D → D → Option D
  | .int i, .int j => some (.bl (decide (j < i)))
  | _, _ => none
def dGe : D → D → Option D
  | .int i, .int j => some (.bl (decide (j ≤ i)))
  | _, _ => none
def CFdiv (i j : Int) : Prop := j ≠ 0 ∧ j.natAbs.log2 < 9000
theorem op_fdivA {X : Cx} : OpR X (binaryOp .FloorDiv) (rI CFdiv fun i j => .int (i.fdiv j)) := opI fun i j _ _ _ _ _ hc q => floordiv_int hc.1 q (.inl (PyProof.noPylong_of_log2 hc.2))
theorem op_mulA {X : Cx} : OpR X (binaryOp .Mult) (rI (fun i j => CMul i j ∨ CMulW i j) fun i j => .int (i * j)) := opI fun i j _ _ _ _ _ hc q => mul_int q (hc.elim CMul.ok CMulW.ok)
theorem scal_int2 {f : D → D → Option D} {C : Int → Int → Prop} {g : Int → Int → V} {gd : Int → Int → D} (h : ∀ x y z, f x y = some z → ∃ i j, x = .int i ∧ y = .int j ∧ C i j ∧ z = gd i j) (hg : ∀ i j, SV (g i j) (gd i j)) : ScalOp f (rI C g) := fun x y z e => by
  obtain ⟨i, j, rfl, rfl, c, rfl⟩ := h x y z e
  refine ⟨g i j, hg i j, fun _ _ _ _ _ _ _ _ _ _ _ v w Q h1 h2 q => ?_⟩
  have e1 := h1.int
  have e2 := h2.int
  subst e1 e2
  exact ⟨i, j, rfl, rfl, c, q⟩
theorem scal_int0 {f : D → D → Option D} {g : Int → Int → V} {gd : Int → Int → D} (h : ∀ x y z, f x y = some z → ∃ i j, x = .int i ∧ y = .int j ∧ z = gd i j) (hg : ∀ i j, SV (g i j) (gd i j)) : ScalOp f (rI0 g) := fun x y z e => by
  obtain ⟨i, j, rfl, rfl, rfl⟩ := h x y z e
  refine ⟨g i j, hg i j, fun _ _ _ _ _ _ _ _ _ _ _ v w Q h1 h2 q => ?_⟩
  have e1 := h1.int
  have e2 := h2.int
  subst e1 e2
  exact ⟨i, j, rfl, rfl, q⟩
theorem so_add : ScalOp dAdd (rI0 fun i j => .int (i + j)) := scal_int0 (gd := fun i j => .int (i + j)) (fun x y z e => by
  cases x <;> cases y <;> simp [dAdd] at e
  exact ⟨_, _, rfl, rfl, e.symm⟩) fun _ _ => .int _
theorem so_sub : ScalOp dSub (rI0 fun i j => .int (i - j)) := scal_int0 (gd := fun i j => .int (i - j)) (fun x y z e => by
  cases x <;> cases y <;> simp [dSub] at e
  exact ⟨_, _, rfl, rfl, e.symm⟩) fun _ _ => .int _
theorem so_lt : ScalOp dLt (rI0 fun i j => .bl (decide (i < j))) := scal_int0 (gd := fun i j => .bl (decide (i < j))) (fun x y z e => by
  cases x <;> cases y <;> simp [dLt] at e
  exact ⟨_, _, rfl, rfl, e.symm⟩) fun _ _ => .bl _
theorem so_gt : ScalOp dGt (rI0 fun i j => .bl (decide (j < i))) := scal_int0 (gd := fun i j => .bl (decide (j < i))) (fun x y z e => by
  cases x <;> cases y <;> simp [dGt] at e
  exact ⟨_, _, rfl, rfl, e.symm⟩) fun _ _ => .bl _
theorem so_ge : ScalOp dGe (rI0 fun i j => .bl (decide (j ≤ i))) := scal_int0 (gd := fun i j => .bl (decide (j ≤ i))) (fun x y z e => by
  cases x <;> cases y <;> simp [dGe] at e
  exact ⟨_, _, rfl, rfl, e.symm⟩) fun _ _ => .bl _
theorem so_mul : ScalOp dMul (rI (fun i j => CMul i j ∨ CMulW i j) fun i j => .int (i * j)) := scal_int2 (gd := fun i j => .int (i * j)) (fun x y z e => by
  cases x <;> cases y <;> simp [dMul] at e
  refine ⟨_, _, rfl, rfl, ?_, e.2.symm⟩
  have h := e.1
  simp only [mulOk, Bool.or_eq_true, decide_eq_true_eq] at h
  rcases h with (h | h) | h
  · exact .inl (.inl h)
  · exact .inl (.inr h)
  · exact .inr h) fun _ _ => .int _
theorem so_div : ScalOp dDiv (rI CFdiv fun i j => .int (i.fdiv j)) := scal_int2 (gd := fun i j => .int (i.fdiv j)) (fun x y z e => by
  cases x <;> cases y <;> simp [dDiv] at e
  refine ⟨_, _, rfl, rfl, ?_, e.2.symm⟩
  have h := e.1
  simp only [divOk, Bool.and_eq_true, decide_eq_true_eq] at h
  exact h) fun _ _ => .int _
theorem so_mod : ScalOp dMod (rI (fun _ j => j ≠ 0) fun i j => .int (i.fmod j)) := scal_int2 (gd := fun i j => .int (i.fmod j)) (fun x y z e => by
  cases x <;> cases y <;> simp [dMod] at e
  exact ⟨_, _, rfl, rfl, e.1, e.2.symm⟩) fun _ _ => .int _
theorem so_pow : ScalOp dPow (rI CPow fun i j => .int (i ^ j.toNat)) := scal_int2 (gd := fun i j => .int (i ^ j.toNat)) (fun x y z e => by
  cases x <;> cases y <;> simp [dPow] at e
  refine ⟨_, _, rfl, rfl, ?_, e.2.symm⟩
  have h := e.1
  simp only [powOk, Bool.and_eq_true, decide_eq_true_eq] at h
  exact ⟨h.1.1, h.1.2, h.2⟩) fun _ _ => .int _
section
variable {X : Cx} {W : WX} {Γx Γ : Ctx} {n : Nat} {m m1 m2 : List Nat} {pos : Pos} {a b : Expr} {ga gb : List D → ER D} {k k1 : Kd}
theorem ej_add (ha : EJ X W Γx Γ n m1 a ga k) (hb : EJ X W Γx Γ n m2 b gb k1) : EJ X W Γx Γ n (m1 ++ m2) (.BinOp a .Add b pos) (eBin dAdd ga gb) .own := ej_bin so_add op_add ha hb
theorem ej_sub (ha : EJ X W Γx Γ n m1 a ga k) (hb : EJ X W Γx Γ n m2 b gb k1) : EJ X W Γx Γ n (m1 ++ m2) (.BinOp a .Sub b pos) (eBin dSub ga gb) .own := ej_bin so_sub op_sub ha hb
theorem ej_mul (ha : EJ X W Γx Γ n m1 a ga k) (hb : EJ X W Γx Γ n m2 b gb k1) : EJ X W Γx Γ n (m1 ++ m2) (.BinOp a .Mult b pos) (eBin dMul ga gb) .own := ej_bin so_mul op_mulA ha hb
theorem ej_div (ha : EJ X W Γx Γ n m1 a ga k) (hb : EJ X W Γx Γ n m2 b gb k1) : EJ X W Γx Γ n (m1 ++ m2) (.BinOp a .FloorDiv b pos) (eBin dDiv ga gb) .own := ej_bin so_div op_fdivA ha hb
theorem ej_mod (ha : EJ X W Γx Γ n m1 a ga k) (hb : EJ X W Γx Γ n m2 b gb k1) : EJ X W Γx Γ n (m1 ++ m2) (.BinOp a .Mod b pos) (eBin dMod ga gb) .own := ej_bin so_mod op_modN ha hb
theorem ej_pow (ha : EJ X W Γx Γ n m1 a ga k) (hb : EJ X W Γx Γ n m2 b gb k1) : EJ X W Γx Γ n (m1 ++ m2) (.BinOp a .Pow b pos) (eBin dPow ga gb) .own := ej_bin so_pow op_pow ha hb
theorem ej_ge (ha : EJ X W Γx Γ n m1 a ga k) (hb : EJ X W Γx Γ n m2 b gb k1) : EJ X W Γx Γ n (m1 ++ m2) (.Compare a [.GtE] [b] pos) (eBin dGe ga gb) .own := ej_cmp so_ge op_ge ha hb (nomark _)
end
def eUn (f : D → Option D) (ga : List D → ER D) : List D → ER D := fun σ => (ga σ).bind fun x σ1 => ofO (f x) σ1
def dNeg : D → Option D
  | .int i => some (.int (-i))
  | _ => none
section
variable {X : Cx} {W : WX} {Γx Γ : Ctx} {n : Nat} {m m1 m2 : List Nat} {pos : Pos} {a b : Expr} {ga gb : List D → ER D} {k k1 : Kd}
theorem ej_neg (ha : EJ X W Γx Γ n m a ga k) : EJ X W Γx Γ n m (.UnaryOp .USub a pos) (eUn dNeg ga) .own := by
  refine pe_imp (pe_un un_neg ha) fun σ H Q h => ?_
  obtain ⟨σD, lab, g, sr, po⟩ := h
  refine ⟨σD, lab, g, sr, po.last fun x σD1 v H1 lab1 sr1 pr1 rl1 po1 => ?_⟩
  obtain ⟨z, e, q⟩ := po1.done
  cases x <;> simp [dNeg] at e
  subst e
  have e1 := rl1.int
  subst e1
  exact ⟨_, rfl, q _ _ _ sr1 (.refl _ _ _ _) (SV.int _).vr⟩
def tOf (g : List D → ER D) : List D → ER Bool := fun σ => (g σ).bind fun d σ1 => match d with
  | .bl b => .ok b σ1
  | _ => .stuck
theorem tof_imp {tc : TE} {g : List D → ER D} (ha : ∀ σ H Q, rdE X W Γx Γ n m k g σ H Q → tc σ H Q) (σ : St) (H : Hp) (Q : Bool → Hp → Prop) (h : rdT X W Γx Γ n m (tOf g) σ H Q) : tTest tc σ H Q := by
  obtain ⟨σD, lab, gg, sr, po⟩ := h
  refine ha _ _ _ ⟨σD, lab, gg, sr, po.last fun x σD1 v H1 lab1 sr1 pr1 rl1 po1 => ?_⟩
  cases x with
  | bl b =>
    have e1 := rl1.bl
    subst e1
    exact ⟨b, rfl, po1 b H1 lab1 sr1 (.refl _ _ _ _) rfl⟩
  | _ => exact po1.elim
theorem tj_cmp {op : CmpOp} {f : D → D → Option D} {r : R2} (hf : ScalOp f r) (ho : OpR X (compareOp op) r) (ha : EJ X W Γx Γ n m1 a ga k) (hb : EJ X W Γx Γ n m2 b gb k1) (hm : behindInMarks op b = false) : TJ X W Γx Γ n (m1 ++ m2) (.Compare a [op] [b] pos) (tOf (eBin f ga gb)) :=
  pt_imp (pt_cmpR ho ha hb hm) fun σ H Q h => tof_imp (fun σ H Q q => bin_imp hf (fun _ _ _ q => q) (fun _ _ _ q => q) σ H Q q) σ H Q h
theorem tj_lt (ha : EJ X W Γx Γ n m1 a ga k) (hb : EJ X W Γx Γ n m2 b gb k1) : TJ X W Γx Γ n (m1 ++ m2) (.Compare a [.Lt] [b] pos) (tOf (eBin dLt ga gb)) := tj_cmp so_lt op_lt ha hb (nomark _)
theorem tj_gt (ha : EJ X W Γx Γ n m1 a ga k) (hb : EJ X W Γx Γ n m2 b gb k1) : TJ X W Γx Γ n (m1 ++ m2) (.Compare a [.Gt] [b] pos) (tOf (eBin dGt ga gb)) := tj_cmp so_gt op_gt ha hb (nomark _)
/-- truth -/
def D.truth : D → Option Bool
  | .non => some false
  | .bl b => some b
  | .int i => some (i != 0)
  | .str x => if x.length ≤ sizeLine then some ((x.length : Int) != 0) else none
  | .tup ds => some (!ds.isEmpty)
  | .lst ds => some (!ds.isEmpty)
  | .dK kvs => some (!kvs.isEmpty)
  | _ => none
theorem isEmpty_len {α β : Type} {l : List α} {r : List β} (h : l.length = r.length) : l.isEmpty = r.isEmpty := by
  cases l <;> cases r <;> simp_all
theorem VR.truth {K : PySem.W.Frag} {cl : CE} {H : Hp} {lab : Labs} {k : Kd} {t : Lab} {v : V} {d : D} {b : Bool} (hv : VR K cl H lab k t v d) (e : d.truth = some b) : TruV K v H b := by
  obtain ⟨fp, r⟩ := hv.rp (by cases d <;> first | rfl | cases e)
  cases r with
  | non => simp [D.truth] at e; exact (show b = false from e)
  | bl c => simp [D.truth] at e; exact e.symm
  | int i => simp [D.truth] at e; exact e.symm
  | str x =>
    simp [D.truth] at e
    exact ⟨e.1, by rw [← e.2]⟩
  | tup h r =>
    simp only [D.truth, Option.some.injEq] at e
    exact .inr (.inl ⟨_, h, by rw [← e, isEmpty_len r.len]⟩)
  | lst h r =>
    simp only [D.truth, Option.some.injEq] at e
    exact .inl ⟨_, .of h, by rw [← e, isEmpty_len r.len]⟩
  | lsf h r => simp [D.truth] at e
  | dK h kk r =>
    simp only [D.truth, Option.some.injEq] at e
    have := r.len
    rw [List.length_map, List.length_map] at this
    exact .inr (.inr ⟨_, h, by rw [← e, isEmpty_len this]⟩)
  | dT h ok hk kk hv r => simp [D.truth] at e
  | ins c h kk r => simp [D.truth] at e
def tTru (g : List D → ER D) : List D → ER Bool := fun σ => (g σ).bind fun d σ1 => ofO d.truth σ1
theorem tj_truth (ha : EJ X W Γx Γ n m a ga k) (he : ∀ whole, isTrue a X.env whole = (do let v ← whole; standAt a.pos; holding [v] (truthy v)) := by intro _; rfl) : TJ X W Γx Γ n m a (tTru ga) := by
  refine pt_imp (pt_truth ha he) fun σ H Q h => ?_
  obtain ⟨σD, lab, g, sr, po⟩ := h
  refine ⟨σD, lab, g, sr, po.last fun x σD1 v H1 lab1 sr1 pr1 rl1 po1 => ?_⟩
  obtain ⟨z, e, q⟩ := po1.done
  exact ⟨z, rl1.truth e, q z H1 lab1 sr1 (.refl _ _ _ _) rfl⟩
def tNotD (g : List D → ER Bool) : List D → ER Bool := fun σ => (g σ).bind fun b σ1 => .ok (!b) σ1
theorem tj_not {g : List D → ER Bool} (ha : TJ X W Γx Γ n m a g) : TJ X W Γx Γ n m (.UnaryOp .Not a pos) (tNotD g) := by
  refine pt_imp (pt_not ha) fun σ H Q h => ?_
  obtain ⟨σD, lab, gg, sr, po⟩ := h
  refine ⟨σD, lab, gg, sr, po.last fun x σD1 v H1 lab1 sr1 pr1 rl1 po1 => ?_⟩
  subst rl1
  exact po1 _ H1 lab1 sr1 (.refl _ _ _ _) rfl
def tAndD (g h : List D → ER Bool) : List D → ER Bool := fun σ => (g σ).bind fun b σ1 => if b = true then h σ1 else .ok false σ1
def tOrD (g h : List D → ER Bool) : List D → ER Bool := fun σ => (g σ).bind fun b σ1 => if b = true then .ok true σ1 else h σ1
abbrev WJ (X : Cx) (W : WX) (Γx Γ : Ctx) (n : Nat) (m : List Nat) (e : Expr) (g : List D → ER Bool) : Prop := PW X e (rdT X W Γx Γ n m g)
theorem pw_imp {X : Cx} {e : Expr} {t u : TT} (h : PW X e t) (i : ∀ σ H Q, u σ H Q → t σ H Q) : PW X e u := ⟨fun wh pins s σ H Q I q => h.run wh pins s σ H Q I (i σ H Q q)⟩
variable {rest : List Expr} {tg th : List D → ER Bool}
theorem wj_and1 (ha : TJ X W Γx Γ n m a tg) : WJ X W Γx Γ n m (.BoolOp .And [a] pos) tg := pw_and1 ha
theorem wj_and (ha : TJ X W Γx Γ n m1 a tg) (hb : WJ X W Γx Γ n m2 (.BoolOp .And (b :: rest) pos) th) : WJ X W Γx Γ n (m1 ++ m2) (.BoolOp .And (a :: b :: rest) pos) (tAndD tg th) := by
  refine pw_imp (pw_and ha hb) fun σ H Q h => ?_
  obtain ⟨σD, lab, gg, sr, po⟩ := h
  refine ⟨σD, lab, gg, sr, po.seq' fun x σD1 v H1 lab1 sr1 pr1 rl1 po1 => ?_⟩
  subst rl1
  cases v with
  | true => exact ⟨σD1, lab1, gg, sr1, po1⟩
  | false => exact po1 _ H1 lab1 sr1 (.refl _ _ _ _) rfl
theorem tj_of_w (h : WJ X W Γx Γ n m a tg) : TJ X W Γx Γ n m a tg := PW.pt h
def eAnd (g h : List D → ER D) : List D → ER D := fun σ => (g σ).bind fun d σ1 => match d with
  | .bl true => h σ1
  | .bl false => .ok (.bl false) σ1
  | _ => .stuck
def eOr (g h : List D → ER D) : List D → ER D := fun σ => (g σ).bind fun d σ1 => match d with
  | .bl true => .ok (.bl true) σ1
  | .bl false => h σ1
  | _ => .stuck
theorem ej_one {op} (ha : EJ X W Γx Γ n m a ga k) : EJ X W Γx Γ n m (.BoolOp op [a] pos) ga k := pe_one ha
theorem ej_and (ha : EJ X W Γx Γ n m1 a ga k) (hb : EJ X W Γx Γ n m2 (.BoolOp .And (b :: rest) pos) gb .own) : EJ X W Γx Γ n (m1 ++ m2) (.BoolOp .And (a :: b :: rest) pos) (eAnd ga gb) .own := by
  refine pe_imp (pe_and ha hb) fun σ H Q h => ?_
  obtain ⟨σD, lab, gg, sr, po⟩ := h
  refine ⟨σD, lab, gg, sr, po.seq' fun x σD1 v H1 lab1 sr1 pr1 rl1 po1 => ?_⟩
  cases x with
  | bl c =>
    have e1 := rl1.bl
    subst e1
    refine ⟨c, rfl, ?_⟩
    cases c with
    | true => exact ⟨σD1, lab1, gg, sr1, po1⟩
    | false => exact po1 _ H1 lab1 sr1 (.refl _ _ _ _) (SV.bl _).vr
  | _ => exact po1.elim
theorem ej_or (ha : EJ X W Γx Γ n m1 a ga k) (hb : EJ X W Γx Γ n m2 (.BoolOp .Or (b :: rest) pos) gb .own) : EJ X W Γx Γ n (m1 ++ m2) (.BoolOp .Or (a :: b :: rest) pos) (eOr ga gb) .own := by
  refine pe_imp (pe_or ha hb) fun σ H Q h => ?_
  obtain ⟨σD, lab, gg, sr, po⟩ := h
  refine ⟨σD, lab, gg, sr, po.seq' fun x σD1 v H1 lab1 sr1 pr1 rl1 po1 => ?_⟩
  cases x with
  | bl c =>
    have e1 := rl1.bl
    subst e1
    refine ⟨c, rfl, ?_⟩
    cases c with
    | true => exact po1 _ H1 lab1 sr1 (.refl _ _ _ _) (SV.bl _).vr
    | false => exact ⟨σD1, lab1, gg, sr1, po1⟩
  | _ => exact po1.elim
def dNot : D → Option D
  | .bl b => some (.bl (!b))
  | _ => none
/-- a if t else b, both of one kind -/
def eIf (t : List D → ER Bool) (g h : List D → ER D) : List D → ER D := fun σ => (t σ).bind fun b σ1 => if b = true then g σ1 else h σ1
theorem ej_if {c : Expr} {m3 : List Nat} (hc : TJ X W Γx Γ n m1 c tg) (ha : EJ X W Γx Γ n m2 a ga k) (hb : EJ X W Γx Γ n m3 b gb k) : EJ X W Γx Γ n (m1 ++ (m2 ++ m3)) (.IfExp c a b pos) (eIf tg ga gb) k := by
  refine pe_imp (pe_ifExp hc ha hb) fun σ H Q h => ?_
  obtain ⟨σD, lab, gg, sr, po⟩ := h
  refine ⟨σD, lab, gg, sr, po.seq' fun x σD1 v H1 lab1 sr1 pr1 rl1 po1 => ?_⟩
  subst rl1
  cases v with
  | true => exact ⟨σD1, lab1, gg, sr1, po1.imp (fun _ _ _ _ _ s p r q => q _ _ _ s (p.mono (SubK.left _ _ _)) r) (SubK.left _ _ _) (Nat.le_refl _)⟩
  | false => exact ⟨σD1, lab1, gg, sr1, po1.imp (fun _ _ _ _ _ s p r q => q _ _ _ s (p.mono (SubK.right _ _ _)) r) (SubK.right _ _ _) (Nat.le_refl _)⟩
end
end Ow


namespace Ow
open PySem PySem.Spec PyProof.Rows L2
def subK : Kd → Kd
  | .own => .own
  | .bor R => .bor R
  | .spn R => .bor R
  | .exc R => .bor R
section
variable {K : PySem.W.Frag} {cl : CE} {H H' : Hp} {lab lab' : Labs} {k : Kd} {t : Lab} {v : V} {d : D}
theorem RpL.atI {vs : List V} {ds : List D} {fp : List Addr} {i : Int} (r : RpL K cl H vs ds fp) (h : L2.atI ds i = some d) : ∃ v f, L2.atI vs i = some v ∧ Rp K cl H v d f ∧ f.Sublist fp := by
  unfold L2.atI at h ⊢
  rw [r.len]
  cases e : ixN ds.length i with
  | none => rw [e] at h; cases h
  | some j =>
    rw [e] at h
    exact r.get h
/-- what a list or a tuple holds -/
theorem VR.items {ds : List D} (h : VR K cl H lab k t v d) (e : d = .tup ds ∨ d = .lst ds ∨ d = .fzl ds) : ∃ a vs, v = .ref a ∧ (SqL K H a vs ∨ SqT K H a vs) ∧ vs.length = ds.length ∧ ∀ i x, L2.atI ds i = some x → ∃ w, L2.atI vs i = some w ∧ VR K cl H lab (subK k) t w x := by
  cases k with
  | own =>
    obtain ⟨fp, r, nd, l⟩ := h
    have key : ∀ {vs : List V} {fp' : List Addr}, RpL K cl H vs ds fp' → fp'.Sublist fp → ∀ i x, L2.atI ds i = some x → ∃ w, L2.atI vs i = some w ∧ VR K cl H lab .own t w x := fun rr sb i x hx => by
      obtain ⟨w, f, a, b, c⟩ := rr.atI hx
      exact ⟨w, a, f, b, nd.sublist (c.trans sb), fun y hy => l y (sb.subset (c.subset hy))⟩
    rcases e with rfl | rfl | rfl
    · cases r with
      | tup h r => exact ⟨_, _, rfl, .inr h, r.len, key r (List.Sublist.refl _)⟩
    · cases r with
      | lst h r => exact ⟨_, _, rfl, .inl (.of h), r.len, key r (List.sublist_cons_self _ _)⟩
    · cases r with
      | lsf h r => exact ⟨_, _, rfl, .inl h.sql, r.len, key r (List.Sublist.refl _)⟩
  | bor R =>
    obtain ⟨fp, r, l⟩ := h
    have key : ∀ {vs : List V} {fp' : List Addr}, RpL K cl H vs ds fp' → fp'.Sublist fp → ∀ i x, L2.atI ds i = some x → ∃ w, L2.atI vs i = some w ∧ VR K cl H lab (.bor R) t w x := fun rr sb i x hx => by
      obtain ⟨w, f, a, b, c⟩ := rr.atI hx
      exact ⟨w, a, f, b, fun y hy => l y (sb.subset (c.subset hy))⟩
    rcases e with rfl | rfl | rfl
    · cases r with
      | tup h r => exact ⟨_, _, rfl, .inr h, r.len, key r (List.Sublist.refl _)⟩
    · cases r with
      | lst h r => exact ⟨_, _, rfl, .inl (.of h), r.len, key r (List.sublist_cons_self _ _)⟩
    · cases r with
      | lsf h r => exact ⟨_, _, rfl, .inl h.sql, r.len, key r (List.Sublist.refl _)⟩
  | spn R =>
    obtain ⟨a, vs, ds', fp, rfl, rfl, ha, r, la, l⟩ := h
    rcases e with e | e | e
    · cases e
    rotate_left
    · cases e
    · cases e
      refine ⟨_, _, rfl, .inl (.of ha), r.len, fun i x hx => ?_⟩
      obtain ⟨w, f, a, b, c⟩ := r.atI hx
      exact ⟨w, a, f, b, fun y hy => (l y (c.subset hy)).2⟩
  | exc R =>
    obtain ⟨fp, r, l⟩ := h
    cases r <;> rcases e with e | e | e <;> cases e
end
def dIx : D → D → Option D
  | .tup ds, .int i => L2.atI ds i
  | .lst ds, .int i => L2.atI ds i
  | .fzl ds, .int i => L2.atI ds i
  | .str z, .int i => if z.length ≤ sizeLine then (L2.atI z.cps.toList i).map fun c => .str ⟨#[c]⟩ else none
  | _, _ => none
section
variable {X : Cx} {W : WX} {Γx Γ : Ctx} {n : Nat} {m m1 m2 : List Nat} {pos : Pos} {a b : Expr} {ga gb : List D → ER D} {k k1 : Kd}
theorem ej_ix (ha : EJ X W Γx Γ n m1 a ga k) (hb : EJ X W Γx Γ (n + 1) m2 b gb k1) (ok : okK m2 (n + 1) k = true := by decide) (hs : PlainIx b := by exact fun _ _ => rfl) : EJ X W Γx Γ n (m1 ++ m2) (.Subscript a b pos) (eBin dIx ga gb) (subK k) := by
  refine pe_imp (pe_ix ix_seq ha hb hs) fun σ H Q h => ?_
  obtain ⟨σD, lab, g, sr, po⟩ := h
  refine ⟨σD, lab, g, sr, po.seq' fun x σD1 v H1 lab1 sr1 pr1 rl1 po1 => ?_⟩
  refine ⟨σD1, lab1, gok.up g, sr1, po1.seq (SubK.up _ _) (Nat.le_succ _) (SubK.nil _ _) (Nat.le_refl _) fun y σD2 w H2 lab2 sr2 pr2 rl2 po2 => ?_⟩
  have rl1 := VR.pres pr2 rl1 ok (by simp [keepL])
  obtain ⟨z, e, q⟩ := po2.done
  have fin : ∀ {zv : V}, VR X.K (clX X) H2 lab2 (subK k) (.tmp n) zv z → Q zv H2 := fun {zv} hz => q zv H2 lab2 sr2 (.refl _ _ _ _) hz
  cases y with
  | int i =>
    have e2 := rl2.int
    subst e2
    cases x with
    | tup ds =>
      obtain ⟨p, vs, rfl, hq, _, hi⟩ := rl1.items (.inl rfl)
      obtain ⟨zv, hz, r⟩ := hi i z e
      rcases hq with hq | hq
      · exact .inl ⟨p, vs, i, zv, rfl, rfl, hq, hz, fin r⟩
      · exact .inr (.inl ⟨p, vs, i, zv, rfl, rfl, hq, hz, fin r⟩)
    | lst ds =>
      obtain ⟨p, vs, rfl, hq, _, hi⟩ := rl1.items (.inr (.inl rfl))
      obtain ⟨zv, hz, r⟩ := hi i z e
      rcases hq with hq | hq
      · exact .inl ⟨p, vs, i, zv, rfl, rfl, hq, hz, fin r⟩
      · exact .inr (.inl ⟨p, vs, i, zv, rfl, rfl, hq, hz, fin r⟩)
    | fzl ds =>
      obtain ⟨p, vs, rfl, hq, _, hi⟩ := rl1.items (.inr (.inr rfl))
      obtain ⟨zv, hz, r⟩ := hi i z e
      rcases hq with hq | hq
      · exact .inl ⟨p, vs, i, zv, rfl, rfl, hq, hz, fin r⟩
      · exact .inr (.inl ⟨p, vs, i, zv, rfl, rfl, hq, hz, fin r⟩)
    | str s =>
      have e1 := rl1.str
      subst e1
      simp only [dIx] at e
      split at e
      · rename_i hz
        rw [Option.map_eq_some_iff] at e
        obtain ⟨c, hc, rfl⟩ := e
        refine .inr (.inr ⟨s, i, c, rfl, rfl, hz, hc, fin ?_⟩)
        have q2 : VR X.K (clX X) H2 lab2 .own (.tmp n) (.str ⟨#[c]⟩) (.str ⟨#[c]⟩) := (SV.str _).vr
        obtain ⟨fp, r, nd, l⟩ := q2
        cases k with
        | own => exact ⟨fp, r, nd, l⟩
        | bor R => exact ⟨[], by cases r; exact .str _, by simp⟩
        | spn R => exact ⟨[], by cases r; exact .str _, by simp⟩
        | exc R => exact ⟨[], by cases r; exact .str _, by simp⟩
      · cases e
    | _ => simp [dIx] at e
  | _ => cases x <;> simp [dIx] at e
end
inductive AK where
  | val (k : Kd) | slot (r : Nat)
def AR (X : Cx) (σ : St) (σD : List D) (H : Hp) (lab : Labs) : Nat → List AK → List V → List D → Prop
  | _, [], vs, ds => vs = [] ∧ ds = []
  | n, .val k :: ks, vs, ds => ∃ v vs' d ds', vs = v :: vs' ∧ ds = d :: ds' ∧ VR X.K (clX X) H lab k (.tmp n) v d ∧ AR X σ σD H lab (n + 1) ks vs' ds'
  | n, .slot r :: ks, vs, ds => ∃ v vs' ds', vs = v :: vs' ∧ ds = σD.getD r .non :: ds' ∧ σ[r]? = some (some v) ∧ AR X σ σD H lab (n + 1) ks vs' ds'
abbrev relA (X : Cx) (σ : St) (n : Nat) (ks : List AK) : Rel (List V) (List D) := fun σD H lab vs ds => AR X σ σD H lab n ks vs ds
def rdA (X : Cx) (W : WX) (Γx Γ : Ctx) (n : Nat) (m : List Nat) (ks : List AK) (g : List D → ER (List D)) : TA := fun σ H Q => ∃ σD lab, gok Γ n = true ∧ SR X Γ σ H lab σD ∧ Post X W Γx Γ σ m n (relA X σ n ks) H lab Q (g σD)
abbrev AJ (X : Cx) (W : WX) (Γx Γ : Ctx) (n : Nat) (m : List Nat) (es : List Expr) (g : List D → ER (List D)) (ks : List AK) : Prop := PA X es (rdA X W Γx Γ n m ks g)
def aNil : List D → ER (List D) := fun σ => .ok [] σ
def aCons (g : List D → ER D) (gs : List D → ER (List D)) : List D → ER (List D) := fun σ => (g σ).bind fun d σ1 => (gs σ1).bind fun ds σ2 => .ok (d :: ds) σ2
def aSlot (r : Nat) (gs : List D → ER (List D)) : List D → ER (List D) := fun σ => (gs σ).bind fun ds σ2 => .ok (σ2.getD r .non :: ds) σ2
section
variable {X : Cx} {W : WX} {Γx Γ : Ctx} {n : Nat} {m m1 m2 : List Nat} {pos : Pos} {e : Expr} {es : List Expr} {g : List D → ER D} {gs : List D → ER (List D)} {k : Kd} {ks : List AK}
theorem aj_nil : AJ X W Γx Γ n [] [] aNil [] := by
  refine pa_imp pa_nil fun σ H Q h => ?_
  obtain ⟨σD, lab, gg, sr, po⟩ := h
  exact po [] H lab sr (.refl _ _ _ _) ⟨rfl, rfl⟩
theorem aj_cons (ha : EJ X W Γx Γ n m1 e g k) (hr : AJ X W Γx Γ (n + 1) m2 es gs ks) (ok : okK m2 (n + 1) k = true := by decide) (hs : starEach (e :: es) X.env = (false, eval e X.env) :: starEach es X.env := by rfl) : AJ X W Γx Γ n (m1 ++ m2) (e :: es) (aCons g gs) (.val k :: ks) := by
  refine pa_imp (pa_cons ha hr hs) fun σ H Q h => ?_
  obtain ⟨σD, lab, gg, sr, po⟩ := h
  refine ⟨σD, lab, gg, sr, po.seq' fun x σD1 v H1 lab1 sr1 pr1 rl1 po1 => ?_⟩
  refine ⟨σD1, lab1, gok.up gg, sr1, po1.seq (SubK.up _ _) (Nat.le_succ _) (SubK.nil _ _) (Nat.le_refl _) fun ds σD2 vs H2 lab2 sr2 pr2 rl2 po2 => ?_⟩
  exact po2 _ H2 lab2 sr2 (.refl _ _ _ _) ⟨v, vs, x, ds, rfl, rfl, VR.pres pr2 rl1 ok (by simp [keepL]), rl2⟩
theorem aj_slot {r : Nat} {x : Str} (hΓ : Γ[r]? = some (some .own)) (hv : PE X (.Name x pos) (tVar r)) (hr : AJ X W Γx Γ (n + 1) m es gs ks) (hs : starEach (.Name x pos :: es) X.env = (false, eval (.Name x pos) X.env) :: starEach es X.env := by rfl) : AJ X W Γx Γ n m (.Name x pos :: es) (aSlot r gs) (.slot r :: ks) := by
  refine pa_imp (pa_cons hv hr hs) fun σ H Q h => ?_
  obtain ⟨σD, lab, gg, sr, po⟩ := h
  obtain ⟨v, hv, _⟩ := sr.get hΓ
  refine ⟨v, hv, σD, lab, gok.up gg, sr, po.seq (SubK.up _ _) (Nat.le_succ _) (SubK.nil _ _) (Nat.le_refl _) fun ds σD2 vs H2 lab2 sr2 pr2 rl2 po2 => ?_⟩
  exact po2 _ H2 lab2 sr2 (.refl _ _ _ _) ⟨v, vs, ds, rfl, rfl, hv, rl2⟩
def ownA : AK → Bool
  | .val .own => true
  | _ => false
def labsA : AK → List Lab
  | .val (.bor R) => R
  | .val (.spn R) => R
  | .val (.exc R) => R
  | _ => []
def unionR (ks : List AK) : List Lab := ks.flatMap labsA
def valA : AK → Bool
  | .val (.exc _) => false
  | .val _ => true
  | _ => false
theorem AR.own {σ : St} {σD : List D} {H : Hp} {lab : Labs} : ∀ {ks : List AK} {n : Nat} {vs : List V} {ds : List D}, AR X σ σD H lab n ks vs ds → ks.all ownA = true → ∃ fp, RpL X.K (clX X) H vs ds fp ∧ fp.Nodup ∧ ∀ a ∈ fp, ∃ j, n ≤ j ∧ lab a = .tmp j
  | [], n, _, _, ⟨e1, e2⟩, _ => by
    subst e1 e2
    exact ⟨[], .nil, List.nodup_nil, by simp⟩
  | .val .own :: ks, n, _, _, ⟨v, vs', d, ds', e1, e2, r, h⟩, o => by
    subst e1 e2
    obtain ⟨f1, r1, nd1, l1⟩ := r
    obtain ⟨f2, r2, nd2, l2⟩ := AR.own (n := n + 1) h (by simpa [ownA] using o)
    refine ⟨f1 ++ f2, .cons r1 r2, ?_, fun a ha => ?_⟩
    · rw [List.nodup_append]
      refine ⟨nd1, nd2, fun a ha b hb e => ?_⟩
      subst e
      obtain ⟨j, hj, e⟩ := l2 a hb
      rw [l1 a ha] at e
      cases e
      omega
    · rcases List.mem_append.mp ha with q | q
      · exact ⟨n, Nat.le_refl _, l1 a q⟩
      · obtain ⟨j, hj, e⟩ := l2 a q
        exact ⟨j, by omega, e⟩
  | .val (.bor R) :: ks, n, _, _, _, o => by simp [ownA] at o
  | .val (.spn R) :: ks, n, _, _, _, o => by simp [ownA] at o
  | .val (.exc R) :: ks, n, _, _, _, o => by simp [ownA] at o
  | .slot r :: ks, n, _, _, _, o => by simp [ownA] at o
theorem AR.mix {σ : St} {σD : List D} {H : Hp} {lab : Labs} : ∀ {ks : List AK} {n : Nat} {vs : List V} {ds : List D}, AR X σ σD H lab n ks vs ds → ks.all valA = true → ∃ fp, RpL X.K (clX X) H vs ds fp ∧ ∀ a ∈ fp, (∃ j, n ≤ j ∧ lab a = .tmp j) ∨ bw (unionR ks) (lab a)
  | [], n, _, _, ⟨e1, e2⟩, _ => by
    subst e1 e2
    exact ⟨[], .nil, by simp⟩
  | .val k :: ks, n, _, _, ⟨v, vs', d, ds', e1, e2, r, h⟩, o => by
    subst e1 e2
    rw [List.all_cons, Bool.and_eq_true] at o
    obtain ⟨f2, r2, l2⟩ := AR.mix (n := n + 1) h o.2
    have tail : ∀ a ∈ f2, (∃ j, n ≤ j ∧ lab a = .tmp j) ∨ bw (unionR (.val k :: ks)) (lab a) := fun a ha => by
      rcases l2 a ha with ⟨j, hj, e⟩ | q | q
      · exact .inl ⟨j, by omega, e⟩
      · exact .inr (.inl q)
      · exact .inr (.inr (List.mem_flatMap.mpr (by
          obtain ⟨x, hx, e⟩ := List.mem_flatMap.mp q
          exact ⟨x, List.mem_cons_of_mem _ hx, e⟩)))
    have hd : ∀ {R : List Lab}, labsA (.val k) = R → ∀ l, bw R l → bw (unionR (.val k :: ks)) l := fun e l q => q.elim .inl fun z => .inr (List.mem_flatMap.mpr ⟨_, List.mem_cons_self, by rw [e]; exact z⟩)
    cases k with
    | own =>
      obtain ⟨f1, r1, nd1, l1⟩ := r
      exact ⟨f1 ++ f2, .cons r1 r2, fun a ha => (List.mem_append.mp ha).elim (fun q => .inl ⟨n, Nat.le_refl _, l1 a q⟩) (tail a)⟩
    | bor R =>
      obtain ⟨f1, r1, l1⟩ := r
      exact ⟨f1 ++ f2, .cons r1 r2, fun a ha => (List.mem_append.mp ha).elim (fun q => .inr (hd (R := R) rfl _ (l1 a q))) (tail a)⟩
    | spn R =>
      obtain ⟨a0, ws, es, f1, rfl, rfl, ha0, r1, la, l1⟩ := r
      refine ⟨(a0 :: f1) ++ f2, .cons (.lst ha0 r1) r2, fun a ha => (List.mem_append.mp ha).elim (fun q => ?_) (tail a)⟩
      rcases List.mem_cons.mp q with q | q
      · exact .inl ⟨n, Nat.le_refl _, by rw [q]; exact la⟩
      · exact .inr (hd (R := R) rfl _ (l1 a q).2)
    | exc R => cases o.1
  | .slot r :: ks, n, _, _, _, o => by simp [valA] at o
theorem AR.len {σ : St} {σD : List D} {H : Hp} {lab : Labs} : ∀ {ks : List AK} {n : Nat} {vs : List V} {ds : List D}, AR X σ σD H lab n ks vs ds → vs.length = ks.length ∧ ds.length = ks.length
  | [], n, _, _, ⟨e1, e2⟩ => by subst e1 e2; exact ⟨rfl, rfl⟩
  | .val k :: ks, n, _, _, ⟨v, vs', d, ds', e1, e2, r, h⟩ => by
    subst e1 e2
    have := AR.len h
    simp [this.1, this.2]
  | .slot _ :: ks, n, _, _, ⟨v, vs', ds', e1, e2, r, h⟩ => by
    subst e1 e2
    have := AR.len h
    simp [this.1, this.2]
/-- all that has come since n: as tmp n; given up -/
def colT (n : Nat) (lab : Labs) : Labs := fun a => match lab a with
  | .tmp j => if n ≤ j then .tmp n else .tmp j
  | l => l
def colF (n : Nat) (lab : Labs) : Labs := fun a => match lab a with
  | .tmp j => if n ≤ j then .fro else .tmp j
  | l => l
theorem colT_tmp {n j : Nat} {lab : Labs} {a : Addr} (h : lab a = .tmp j) (hj : n ≤ j) : colT n lab a = .tmp n := by unfold colT; rw [h]; exact if_pos hj
theorem colF_tmp {n j : Nat} {lab : Labs} {a : Addr} (h : lab a = .tmp j) (hj : n ≤ j) : colF n lab a = .fro := by unfold colF; rw [h]; exact if_pos hj
theorem colT_keep {n : Nat} {lab : Labs} {a : Addr} {m : List Nat} (h : keepL m n (lab a) = true) : colT n lab a = lab a := by
  unfold colT
  split
  · rename_i j e
    rw [e] at h
    simp only [keepL, decide_eq_true_eq] at h
    rw [if_neg (by omega), e]
  · rfl
theorem colF_keep {n : Nat} {lab : Labs} {a : Addr} {m : List Nat} (h : keepL m n (lab a) = true) : colF n lab a = lab a := by
  unfold colF
  split
  · rename_i j e
    rw [e] at h
    simp only [keepL, decide_eq_true_eq] at h
    rw [if_neg (by omega), e]
  · rfl
theorem colT_old {n : Nat} {lab : Labs} {a : Addr} (h : oldL (colT n lab a) = true) : lab a = colT n lab a := by
  unfold colT at h ⊢
  split
  · rename_i j e
    rw [e] at h
    dsimp only at h
    split at h <;> cases h
  · rfl
theorem colF_old {n : Nat} {lab : Labs} {a : Addr} (h : oldL (colF n lab a) = true) : lab a = colF n lab a := by
  unfold colF at h ⊢
  split
  · rename_i j e
    rw [e] at h
    dsimp only at h
    split at h <;> cases h
  · rfl
theorem Pres.colT {m : List Nat} {n : Nat} {H : Hp} {lab : Labs} : Pres m n H lab H (colT n lab) := .relab (fun _ h => colT_keep h) fun _ h => colT_old h
theorem Pres.colF {m : List Nat} {n : Nat} {H : Hp} {lab : Labs} : Pres m n H lab H (colF n lab) := .relab (fun _ h => colF_keep h) fun _ h => colF_old h
theorem bw_colF {n : Nat} {lab : Labs} {a : Addr} {R : List Lab} (h : (∃ j, n ≤ j ∧ lab a = .tmp j) ∨ bw R (lab a)) : bw R (colF n lab a) := by
  rcases h with ⟨j, hj, e⟩ | h | h
  · exact .inl (colF_tmp e hj)
  · exact .inl (by unfold colF; rw [h])
  · by_cases q : ∃ j, n ≤ j ∧ lab a = .tmp j
    · obtain ⟨j, hj, e⟩ := q
      exact .inl (colF_tmp e hj)
    · refine .inr ?_
      unfold colF
      split
      · rename_i j e
        rw [if_neg (fun z => q ⟨j, z, e⟩), ← e]
        exact h
      · exact h
def eTup (gs : List D → ER (List D)) : List D → ER D := fun σ => (gs σ).bind fun ds σ1 => .ok (.tup ds) σ1
def eLst (gs : List D → ER (List D)) : List D → ER D := fun σ => (gs σ).bind fun ds σ1 => .ok (.lst ds) σ1
theorem ej_tup {x1} (h : AJ X W Γx Γ n m es gs ks) (ho : ks.all ownA = true := by rfl) (hl : ks.length ≤ 1000 := by decide) : EJ X W Γx Γ n m (.Tuple es x1 pos) (eTup gs) .own := by
  refine pe_imp (pe_tup h) fun σ H Q hh => ?_
  obtain ⟨σD, lab, gg, sr, po⟩ := hh
  refine ⟨σD, lab, gg, sr, po.last fun ds σD1 vs H1 lab1 sr1 pr1 rl1 po1 => ?_⟩
  obtain ⟨fp, r, nd, l⟩ := rl1.own ho
  refine ⟨by rw [rl1.len.1]; exact Nat.le_of_lt (small1000 hl), fun p hp => ?_⟩
  have P : Pres [] n H1 lab1 (upd H1 p (.tup vs)) (setL (colT n lab1) p (.tmp n)) := Pres.colT.trans (.alloc hp rfl) (SubK.refl _ _) (SubK.refl _ _)
  have ne : ∀ a ∈ fp, a ≠ p := fun a ha e => by
    obtain ⟨o, q, _⟩ := r.alloc a ha
    rw [e, hp] at q; cases q
  refine po1 _ _ _ (sr1.pres gg P) P ⟨fp, .tup (.of upd_same) (r.ext (TK.new hp) fun a ha => upd_ne (ne a ha)), nd, fun a ha => ?_⟩
  obtain ⟨j, hj, e⟩ := l a ha
  show (if a = p then _ else _) = _
  rw [if_neg (ne a ha)]
  exact colT_tmp e hj
theorem ej_lst (h : AJ X W Γx Γ n m es gs ks) (ho : ks.all ownA = true := by rfl) (hl : ks.length ≤ 1000 := by decide) : EJ X W Γx Γ n m (.List es pos) (eLst gs) .own := by
  refine pe_imp (pe_lst h) fun σ H Q hh => ?_
  obtain ⟨σD, lab, gg, sr, po⟩ := hh
  refine ⟨σD, lab, gg, sr, po.last fun ds σD1 vs H1 lab1 sr1 pr1 rl1 po1 => ?_⟩
  obtain ⟨fp, r, nd, l⟩ := rl1.own ho
  refine ⟨by rw [rl1.len.1]; exact Nat.le_of_lt (small1000 hl), fun p hp => ?_⟩
  have P : Pres [] n H1 lab1 (upd H1 p (.lst vs)) (setL (colT n lab1) p (.tmp n)) := Pres.colT.trans (.alloc hp rfl) (SubK.refl _ _) (SubK.refl _ _)
  have ne : ∀ a ∈ fp, a ≠ p := fun a ha e => by
    obtain ⟨o, q, _⟩ := r.alloc a ha
    rw [e, hp] at q; cases q
  refine po1 _ _ _ (sr1.pres gg P) P ⟨p :: fp, .lst upd_same (r.ext (TK.new hp) fun a ha => upd_ne (ne a ha)), List.nodup_cons.mpr ⟨fun z => ne p z rfl, nd⟩, fun a ha => ?_⟩
  show (if a = p then _ else _) = _
  rcases List.mem_cons.mp ha with q | q
  · exact if_pos q
  · obtain ⟨j, hj, e⟩ := l a q
    rw [if_neg (ne a q)]
    exact colT_tmp e hj
/-- what is flat is one's own -/
def eFlat (g : List D → ER D) : List D → ER D := fun σ => (g σ).bind fun d σ1 => if d.flat = true then .ok d σ1 else .stuck
theorem ej_flat (h : EJ X W Γx Γ n m e g k) : EJ X W Γx Γ n m e (eFlat g) .own := by
  refine pe_imp h fun σ H Q hh => ?_
  obtain ⟨σD, lab, gg, sr, po⟩ := hh
  refine ⟨σD, lab, gg, sr, po.last fun d σD1 v H1 lab1 sr1 pr1 rl1 po1 => ?_⟩
  split at po1
  · rename_i f
    exact po1 _ H1 lab1 sr1 (.refl _ _ _ _) (rl1.flat_own f)
  · exact po1.elim
/-- a list of flat things that is one's own uppermost -/
def eFlatL (g : List D → ER D) : List D → ER D := fun σ => (g σ).bind fun d σ1 => match d with
  | .lst ds => if D.flats ds = true then .ok (.lst ds) σ1 else .stuck
  | _ => .stuck
theorem ej_flatL {R : List Lab} (h : EJ X W Γx Γ n m e g (.spn R)) : EJ X W Γx Γ n m e (eFlatL g) .own := by
  refine pe_imp h fun σ H Q hh => ?_
  obtain ⟨σD, lab, gg, sr, po⟩ := hh
  refine ⟨σD, lab, gg, sr, po.last fun d σD1 v H1 lab1 sr1 pr1 rl1 po1 => ?_⟩
  obtain ⟨a, vs, ds, fp, rfl, rfl, ha, r, la, l⟩ := rl1
  dsimp only at po1
  split at po1
  · rename_i f
    have e := r.flat f
    subst e
    exact po1 _ H1 lab1 sr1 (.refl _ _ _ _) ⟨[a], .lst ha r, by simp, fun b hb => by rw [List.mem_singleton.mp hb]; exact la⟩
  · exact po1.elim
end
end Ow


namespace Ow
open PySem PySem.Spec PyProof.Rows L2
mutual
def D.py : D → PyData
  | .non => .none
  | .bl b => .bool b
  | .int i => .int i
  | .str x => .str x
  | .tup ds => .tuple (D.pys ds)
  | .lst ds => .list (D.pys ds)
  | .dK _ => .none
  | .dT _ => .none
  | .ins _ _ => .none
  | .fzl _ => .none
  | .exn _ _ => .none
def D.pys : List D → List PyData
  | [] => []
  | d :: ds => d.py :: D.pys ds
end
/-- data without dicts and instances, at most so deep -/
def D.dat : Nat → D → Bool
  | _, .non => true
  | _, .bl _ => true
  | _, .int _ => true
  | _, .str x => PyData.strOk x
  | n + 1, .tup ds => ds.all (D.dat n)
  | n + 1, .lst ds => ds.all (D.dat n)
  | _, _ => false
def D.eqv (x y : D) : Bool := PyData.eqv x.py y.py
theorem D.dat_lay : ∀ (n : Nat) (d : D), d.dat n = true → d.py.canLay0 = true ∧ d.py.depth ≤ n
  | n, .non, h => by simp [D.py, PyData.canLay0, PyData.depth]
  | n, .bl _, h => by simp [D.py, PyData.canLay0, PyData.depth]
  | n, .int _, h => by simp [D.py, PyData.canLay0, PyData.depth]
  | n, .str x, h => by
    have h : PyData.strOk x = true := by cases n <;> exact h
    simp [D.py, PyData.canLay0, PyData.depth, h]
  | n + 1, .tup ds, h => by
    have h : ds.all (D.dat n) = true := h
    have : ∀ es : List D, es.all (D.dat n) = true → PyData.canLayAll0 (D.pys es) = true ∧ PyData.depthAll (D.pys es) ≤ n := by
      intro es
      induction es with
      | nil => intro _; simp [D.pys, PyData.canLayAll0, PyData.depthAll]
      | cons e es ih =>
        intro he
        rw [List.all_cons, Bool.and_eq_true] at he
        have h1 := D.dat_lay n e he.1
        have h2 := ih he.2
        simp only [D.pys, PyData.canLayAll0, PyData.depthAll, Bool.and_eq_true]
        exact ⟨⟨h1.1, h2.1⟩, Nat.max_le.mpr ⟨h1.2, h2.2⟩⟩
    have := this ds h
    simp only [D.py, PyData.canLay0, PyData.depth]
    exact ⟨this.1, by omega⟩
  | n + 1, .lst ds, h => by
    have h : ds.all (D.dat n) = true := h
    have : ∀ es : List D, es.all (D.dat n) = true → PyData.canLayAll0 (D.pys es) = true ∧ PyData.depthAll (D.pys es) ≤ n := by
      intro es
      induction es with
      | nil => intro _; simp [D.pys, PyData.canLayAll0, PyData.depthAll]
      | cons e es ih =>
        intro he
        rw [List.all_cons, Bool.and_eq_true] at he
        have h1 := D.dat_lay n e he.1
        have h2 := ih he.2
        simp only [D.pys, PyData.canLayAll0, PyData.depthAll, Bool.and_eq_true]
        exact ⟨⟨h1.1, h2.1⟩, Nat.max_le.mpr ⟨h1.2, h2.2⟩⟩
    have := this ds h
    simp only [D.py, PyData.canLay0, PyData.depth]
    exact ⟨this.1, by omega⟩
  | 0, .tup ds, h => by cases h
  | 0, .lst ds, h => by cases h
  | n, .dK _, h => by cases n <;> cases h
  | n, .dT _, h => by cases n <;> cases h
  | n, .ins _ _, h => by cases n <;> cases h
  | n, .fzl _, h => by cases n <;> cases h
  | n, .exn _ _, h => by cases n <;> cases h
section
variable {K : PySem.W.Frag} {cl : CE} {H : Hp}
mutual
theorem Rp.dp : ∀ {v : V} {d : D} {fp : List Addr} {n : Nat}, Rp K cl H v d fp → d.dat n = true → Dp K H v d.py
  | _, _, _, _, .non, _ => by rw [D.py]; exact .non
  | _, _, _, _, .bl b, _ => by rw [D.py]; exact .bl b
  | _, _, _, _, .int i, _ => by rw [D.py]; exact .int i
  | _, _, _, _, .str x, _ => by rw [D.py]; exact .str x
  | _, _, _, 0, .tup h r, e => by cases e
  | _, _, _, n + 1, .tup h r, e => by rw [D.py]; exact .tup h (RpL.dp r (n := n) e)
  | _, _, _, 0, .lst h r, e => by cases e
  | _, _, _, n + 1, .lst h r, e => by rw [D.py]; exact .lst (.of h) (RpL.dp r (n := n) e)
  | _, _, _, n, .lsf h r, e => by cases n <;> cases e
  | _, _, _, n, .dK h k r, e => by cases n <;> cases e
  | _, _, _, n, .dT h ok hk k hv r, e => by cases n <;> cases e
  | _, _, _, n, .ins c h k r, e => by cases n <;> cases e
theorem RpL.dp : ∀ {vs : List V} {ds : List D} {fp : List Addr} {n : Nat}, RpL K cl H vs ds fp → ds.all (D.dat n) = true → DpAll K H vs (D.pys ds)
  | _, _, _, _, .nil, _ => .nil
  | _, _, _, n, .cons h r, e => by
    rw [List.all_cons, Bool.and_eq_true] at e
    exact .cons (Rp.dp h e.1) (RpL.dp r e.2)
end
end
theorem D.dat_noE {d : D} {n : Nat} (h : d.dat n = true) : d.noE = true := by
  cases d <;> first | rfl | (cases n <;> cases h)
def dEq (x y : D) : Option D := if x.dat 64 = true ∧ y.dat 64 = true then some (.bl (x.eqv y)) else none
def dNe (x y : D) : Option D := if x.dat 64 = true ∧ y.dat 64 = true then some (.bl (!x.eqv y)) else none
theorem D.shaped {d : D} (h : d.dat 64 = true) : SeqAt.shaped d.py = true := by
  have := D.dat_lay 64 d h
  unfold SeqAt.shaped
  rw [this.1, Bool.true_and]
  exact decide_eq_true this.2
section
variable {X : Cx} {W : WX} {Γx Γ : Ctx} {n : Nat} {m m1 m2 : List Nat} {pos : Pos} {a b : Expr} {ga gb : List D → ER D} {k k1 : Kd}
theorem eq_imp {f : D → D → Option D} {r : R2} {ta tb : TE} (hf : ∀ x y z, f x y = some z → ∃ c, z = .bl c ∧ (x.noE = true ∧ y.noE = true) ∧ ∀ H v w fp fq (Q : VK), Rp X.K (clX X) H v x fp → Rp X.K (clX X) H w y fq → Q (.bl c) H → r v w H Q)
    (ha : ∀ σ H Q, rdE X W Γx Γ n m1 k ga σ H Q → ta σ H Q) (hb : ∀ σ H Q, rdE X W Γx Γ (n + 1) m2 k1 gb σ H Q → tb σ H Q) (ok : okK m2 (n + 1) k = true) (σ : St) (H : Hp) (Q : VK) (h : rdE X W Γx Γ n (m1 ++ m2) .own (eBin f ga gb) σ H Q) : tOp r ta tb σ H Q := by
  obtain ⟨σD, lab, g, sr, po⟩ := h
  refine ha _ _ _ ⟨σD, lab, g, sr, po.seq' fun x σD1 v H1 lab1 sr1 pr1 rl1 po1 => ?_⟩
  refine hb _ _ _ ⟨σD1, lab1, gok.up g, sr1, po1.seq (SubK.up _ _) (Nat.le_succ _) (SubK.nil _ _) (Nat.le_refl _) fun y σD2 w H2 lab2 sr2 pr2 rl2 po2 => ?_⟩
  have rl1 := VR.pres pr2 rl1 ok (by simp [keepL])
  obtain ⟨z, e, q⟩ := po2.done
  obtain ⟨c, rfl, hno, hr⟩ := hf x y z e
  obtain ⟨f1, r1⟩ := rl1.rp hno.1
  obtain ⟨f2, r2⟩ := rl2.rp hno.2
  exact hr _ _ _ _ _ _ r1 r2 (q _ _ _ sr2 (.refl _ _ _ _) (SV.bl _).vr)
theorem dEq_ok : ∀ x y z, dEq x y = some z → ∃ c, z = .bl c ∧ (x.noE = true ∧ y.noE = true) ∧ ∀ H v w fp fq (Q : VK), Rp X.K (clX X) H v x fp → Rp X.K (clX X) H w y fq → Q (.bl c) H → rEqD X.K v w H Q := fun x y z e => by
  unfold dEq at e
  split at e
  · rename_i h
    cases e
    exact ⟨_, rfl, ⟨D.dat_noE h.1, D.dat_noE h.2⟩, fun H v w fp fq Q r1 r2 q => ⟨x.py, y.py, r1.dp h.1, r2.dp h.2, D.shaped h.1, D.shaped h.2, q⟩⟩
  · cases e
theorem dNe_ok : ∀ x y z, dNe x y = some z → ∃ c, z = .bl c ∧ (x.noE = true ∧ y.noE = true) ∧ ∀ H v w fp fq (Q : VK), Rp X.K (clX X) H v x fp → Rp X.K (clX X) H w y fq → Q (.bl c) H → rNeD X.K v w H Q := fun x y z e => by
  unfold dNe at e
  split at e
  · rename_i h
    cases e
    exact ⟨_, rfl, ⟨D.dat_noE h.1, D.dat_noE h.2⟩, fun H v w fp fq Q r1 r2 q => ⟨x.py, y.py, r1.dp h.1, r2.dp h.2, D.shaped h.1, D.shaped h.2, q⟩⟩
  · cases e
theorem ej_eq (hu : X.A.units + 64 < cLine) (ha : EJ X W Γx Γ n m1 a ga k) (hb : EJ X W Γx Γ (n + 1) m2 b gb k1) (ok : okK m2 (n + 1) k = true := by decide) : EJ X W Γx Γ n (m1 ++ m2) (.Compare a [.Eq] [b] pos) (eBin dEq ga gb) .own :=
  pe_imp (pe_cmpR (op_eqD hu) ha hb (nomark _)) fun σ H Q h => eq_imp dEq_ok (fun _ _ _ q => q) (fun _ _ _ q => q) ok σ H Q h
theorem ej_ne (hu : X.A.units + 64 < cLine) (ha : EJ X W Γx Γ n m1 a ga k) (hb : EJ X W Γx Γ (n + 1) m2 b gb k1) (ok : okK m2 (n + 1) k = true := by decide) : EJ X W Γx Γ n (m1 ++ m2) (.Compare a [.NotEq] [b] pos) (eBin dNe ga gb) .own :=
  pe_imp (pe_cmpR (op_neD hu) ha hb (nomark _)) fun σ H Q h => eq_imp dNe_ok (fun _ _ _ q => q) (fun _ _ _ q => q) ok σ H Q h
theorem tj_eq (hu : X.A.units + 64 < cLine) (ha : EJ X W Γx Γ n m1 a ga k) (hb : EJ X W Γx Γ (n + 1) m2 b gb k1) (ok : okK m2 (n + 1) k = true := by decide) : TJ X W Γx Γ n (m1 ++ m2) (.Compare a [.Eq] [b] pos) (tOf (eBin dEq ga gb)) :=
  pt_imp (pt_cmpR (op_eqD hu) ha hb (nomark _)) fun σ H Q h => tof_imp (fun σ H Q q => eq_imp dEq_ok (fun _ _ _ q => q) (fun _ _ _ q => q) ok σ H Q q) σ H Q h
theorem tj_ne (hu : X.A.units + 64 < cLine) (ha : EJ X W Γx Γ n m1 a ga k) (hb : EJ X W Γx Γ (n + 1) m2 b gb k1) (ok : okK m2 (n + 1) k = true := by decide) : TJ X W Γx Γ n (m1 ++ m2) (.Compare a [.NotEq] [b] pos) (tOf (eBin dNe ga gb)) :=
  pt_imp (pt_cmpR (op_neD hu) ha hb (nomark _)) fun σ H Q h => tof_imp (fun σ H Q q => eq_imp dNe_ok (fun _ _ _ q => q) (fun _ _ _ q => q) ok σ H Q q) σ H Q h
end
def eCall1 (f : List D → Option D) (gs : List D → ER (List D)) : List D → ER D := fun σ => (gs σ).bind fun ds σ1 => ofO (f ds) σ1
/-- f is what the call does: a scalar comes -/
def ScalCall (X : Cx) (f : List D → Option D) (r : List V → Hp → VK → Prop) : Prop := ∀ ds z, f ds = some z → ∃ zv, SV zv z ∧ ∀ (H : Hp) (vs : List V) (fp : List Addr) (Q : VK), RpL X.K (clX X) H vs ds fp → Q zv H → r vs H Q
section
variable {X : Cx} {W : WX} {Γx Γ : Ctx} {n : Nat} {m m1 m2 : List Nat} {pos p : Pos} {x : Str} {e : Expr} {es : List Expr} {gs : List D → ER (List D)} {ks : List AK} {f : List D → Option D} {r : List V → Hp → VK → Prop} {id T : String}
theorem callB_imp {ta : TA} (hf : ScalCall X f r) (hv : ks.all valA = true) (ha : ∀ σ H Q, rdA X W Γx Γ n m ks gs σ H Q → ta σ H Q) (σ : St) (H : Hp) (Q : VK) (h : rdE X W Γx Γ n m .own (eCall1 f gs) σ H Q) : tCB r ta σ H Q := by
  obtain ⟨σD, lab, g, sr, po⟩ := h
  refine ha _ _ _ ⟨σD, lab, g, sr, po.last fun ds σD1 vs H1 lab1 sr1 pr1 rl1 po1 => ?_⟩
  obtain ⟨z, e, q⟩ := po1.done
  obtain ⟨zv, sv, hr⟩ := hf ds z e
  obtain ⟨fp, rp, _⟩ := rl1.mix hv
  exact hr _ _ _ _ rp (q _ _ _ sr1 (.refl _ _ _ _) sv.vr)
theorem ej_callB (hf : ScalCall X f r) (hc : CallR X (.builtin id) r) (hg : Gl X x) (hm : X.mg x = none) (hv : bootBuiltins x = some (.builtin id)) (ha : AJ X W Γx Γ n m (e :: es) gs ks) (ho : ks.all valA = true := by rfl) (hn : x ≠ "__name__" := by decide) (hdb : (x == ("__debug__" : Str)) = false := by decide)
    (he : starEach (e :: es) X.env = (false, eval e X.env) :: starEach es X.env := by rfl) (hpl : (backTo pos (starEach es X.env)).any (·.1) = false := by rfl) : EJ X W Γx Γ n m (.Call (.Name x p) (e :: es) [] pos) (eCall1 f gs) .own :=
  pe_imp (pe_callB hc hg hm hv ha hn hdb he hpl) fun σ H Q h => callB_imp hf ho (fun _ _ _ q => q) σ H Q h
theorem ej_callTy (hf : ScalCall X f r) (hc : CallR X (.type T) r) (hg : Gl X x) (hm : X.mg x = none) (hv : bootBuiltins x = some (.type T)) (ha : AJ X W Γx Γ n m (e :: es) gs ks) (ho : ks.all valA = true := by rfl) (hn : x ≠ "__name__" := by decide) (hdb : (x == ("__debug__" : Str)) = false := by decide)
    (he : starEach (e :: es) X.env = (false, eval e X.env) :: starEach es X.env := by rfl) (hpl : (backTo pos (starEach es X.env)).any (·.1) = false := by rfl) : EJ X W Γx Γ n m (.Call (.Name x p) (e :: es) [] pos) (eCall1 f gs) .own :=
  pe_imp (pe_callTy hc hg hm hv ha hn hdb he hpl) fun σ H Q h => callB_imp hf ho (fun _ _ _ q => q) σ H Q h
end
def fLen : List D → Option D
  | [.tup ds] => some (.int ds.length)
  | [.lst ds] => some (.int ds.length)
  | [.fzl ds] => some (.int ds.length)
  | [.str z] => if z.length ≤ sizeLine then some (.int z.length) else none
  | _ => none
def fAbs : List D → Option D
  | [.int i] => some (.int (if i < 0 then -i else i))
  | _ => none
def fInt : List D → Option D
  | [.int i] => some (.int i)
  | [.bl b] => some (.int (if b then 1 else 0))
  | _ => none
def fMax2 : List D → Option D
  | [.int i, .int j] => some (.int (if j > i then j else i))
  | _ => none
def fMin2 : List D → Option D
  | [.int i, .int j] => some (.int (if j < i then j else i))
  | _ => none
section
variable {X : Cx}
theorem RpL.one_inv {K : PySem.W.Frag} {cl : CE} {H : Hp} {vs : List V} {d : D} {fp : List Addr} (h : RpL K cl H vs [d] fp) : ∃ v f, vs = [v] ∧ Rp K cl H v d f := by
  obtain ⟨v, ws, f1, f2, rfl, rfl, a, b⟩ := h.cons_inv
  obtain ⟨rfl, rfl⟩ := b.nil_inv
  exact ⟨v, f1, rfl, a⟩
theorem RpL.two_inv {K : PySem.W.Frag} {cl : CE} {H : Hp} {vs : List V} {d e : D} {fp : List Addr} (h : RpL K cl H vs [d, e] fp) : ∃ v w f g, vs = [v, w] ∧ Rp K cl H v d f ∧ Rp K cl H w e g := by
  obtain ⟨v, ws, f1, f2, rfl, rfl, a, b⟩ := h.cons_inv
  obtain ⟨w, g, rfl, c⟩ := b.one_inv
  exact ⟨v, w, f1, g, rfl, a, c⟩
theorem sc_len : ScalCall X fLen (fun xs H Q => ∃ x n, xs = [x] ∧ LenV X.K x H n ∧ Q (.int n) H) := fun ds z e => by
  unfold fLen at e
  split at e
  · cases e
    refine ⟨_, .int _, fun H vs fp Q r q => ?_⟩
    obtain ⟨v, f, rfl, r0⟩ := r.one_inv
    cases r0 with
    | tup h r => exact ⟨_, _, rfl, .inr ⟨_, h, rfl⟩, by rw [r.len]; exact q⟩
  · cases e
    refine ⟨_, .int _, fun H vs fp Q r q => ?_⟩
    obtain ⟨v, f, rfl, r0⟩ := r.one_inv
    cases r0 with
    | lst h r => exact ⟨_, _, rfl, .inl ⟨_, .of h, rfl⟩, by rw [r.len]; exact q⟩
  · cases e
    refine ⟨_, .int _, fun H vs fp Q r q => ?_⟩
    obtain ⟨v, f, rfl, r0⟩ := r.one_inv
    cases r0 with
    | lsf h r => exact ⟨_, _, rfl, .inl ⟨_, h.sql, rfl⟩, by rw [r.len]; exact q⟩
  · split at e
    · rename_i hz
      cases e
      refine ⟨_, .int _, fun H vs fp Q r q => ?_⟩
      obtain ⟨v, f, rfl, r0⟩ := r.one_inv
      cases r0
      exact ⟨_, _, rfl, ⟨hz, rfl⟩, q⟩
    · cases e
  · cases e
theorem sc_abs : ScalCall X fAbs (fun xs H Q => ∃ i, xs = [.int i] ∧ Q (.int (if i < 0 then -i else i)) H) := fun ds z e => by
  unfold fAbs at e
  split at e
  · cases e
    refine ⟨_, .int _, fun H vs fp Q r q => ?_⟩
    obtain ⟨v, f, rfl, r0⟩ := r.one_inv
    cases r0
    exact ⟨_, rfl, q⟩
  · cases e
theorem sc_int : ScalCall X fInt (fun xs H Q => (∃ i, xs = [.int i] ∧ Q (.int i) H) ∨ ∃ k, xs = [.bl k] ∧ Q (.int (if k then 1 else 0)) H) := fun ds z e => by
  unfold fInt at e
  split at e
  · cases e
    refine ⟨_, .int _, fun H vs fp Q r q => ?_⟩
    obtain ⟨v, f, rfl, r0⟩ := r.one_inv
    cases r0
    exact .inl ⟨_, rfl, q⟩
  · cases e
    refine ⟨_, .int _, fun H vs fp Q r q => ?_⟩
    obtain ⟨v, f, rfl, r0⟩ := r.one_inv
    cases r0
    exact .inr ⟨_, rfl, q⟩
  · cases e
theorem sc_max2 : ScalCall X fMax2 (fun xs H Q => ∃ i j, xs = [.int i, .int j] ∧ Q (.int (if j > i then j else i)) H) := fun ds z e => by
  unfold fMax2 at e
  split at e
  · cases e
    refine ⟨_, .int _, fun H vs fp Q r q => ?_⟩
    obtain ⟨v, w, f, g, rfl, r1, r2⟩ := r.two_inv
    cases r1
    cases r2
    exact ⟨_, _, rfl, q⟩
  · cases e
theorem sc_min2 : ScalCall X fMin2 (fun xs H Q => ∃ i j, xs = [.int i, .int j] ∧ Q (.int (if j < i then j else i)) H) := fun ds z e => by
  unfold fMin2 at e
  split at e
  · cases e
    refine ⟨_, .int _, fun H vs fp Q r q => ?_⟩
    obtain ⟨v, w, f, g, rfl, r1, r2⟩ := r.two_inv
    cases r1
    cases r2
    exact ⟨_, _, rfl, q⟩
  · cases e
end
section
variable {X : Cx} {W : WX} {Γx Γ : Ctx} {n : Nat} {m m1 m2 : List Nat} {pos p : Pos} {e : Expr} {es : List Expr} {gs : List D → ER (List D)} {ks : List AK}
theorem ej_len (hm : X.mg "len" = none) (ha : AJ X W Γx Γ n m [e] gs ks) (hg : Gl X "len" := by rfl) (ho : ks.all valA = true := by rfl) (he : starEach [e] X.env = [(false, eval e X.env)] := by rfl) : EJ X W Γx Γ n m (.Call (.Name "len" p) [e] [] pos) (eCall1 fLen gs) .own :=
  ej_callB sc_len call_len hg hm PySem.boot_len ha ho (by decide) (by decide) he (by rfl)
theorem ej_abs (hm : X.mg "abs" = none) (ha : AJ X W Γx Γ n m [e] gs ks) (hg : Gl X "abs" := by rfl) (ho : ks.all valA = true := by rfl) (he : starEach [e] X.env = [(false, eval e X.env)] := by rfl) : EJ X W Γx Γ n m (.Call (.Name "abs" p) [e] [] pos) (eCall1 fAbs gs) .own :=
  ej_callB sc_abs call_abs hg hm (by decide +kernel) ha ho (by decide) (by decide) he (by rfl)
theorem ej_intc (hm : X.mg "int" = none) (ha : AJ X W Γx Γ n m [e] gs ks) (hg : Gl X "int" := by rfl) (ho : ks.all valA = true := by rfl) (he : starEach [e] X.env = [(false, eval e X.env)] := by rfl) : EJ X W Γx Γ n m (.Call (.Name "int" p) [e] [] pos) (eCall1 fInt gs) .own :=
  ej_callTy sc_int call_int1 hg hm (by decide +kernel) ha ho (by decide) (by decide) he (by rfl)
theorem ej_max2 {e2 : Expr} (hc : X.calm = true) (hm : X.mg "max" = none) (ha : AJ X W Γx Γ n m [e, e2] gs ks) (hg : Gl X "max" := by rfl) (ho : ks.all valA = true := by rfl) (he : starEach [e, e2] X.env = (false, eval e X.env) :: starEach [e2] X.env := by rfl) (hpl : (backTo pos (starEach [e2] X.env)).any (·.1) = false := by rfl) : EJ X W Γx Γ n m (.Call (.Name "max" p) [e, e2] [] pos) (eCall1 fMax2 gs) .own :=
  ej_callB sc_max2 (call_max2 hc) hg hm (by decide +kernel) ha ho (by decide) (by decide) he hpl
theorem ej_min2 {e2 : Expr} (hc : X.calm = true) (hm : X.mg "min" = none) (ha : AJ X W Γx Γ n m [e, e2] gs ks) (hg : Gl X "min" := by rfl) (ho : ks.all valA = true := by rfl) (he : starEach [e, e2] X.env = (false, eval e X.env) :: starEach [e2] X.env := by rfl) (hpl : (backTo pos (starEach [e2] X.env)).any (·.1) = false := by rfl) : EJ X W Γx Γ n m (.Call (.Name "min" p) [e, e2] [] pos) (eCall1 fMin2 gs) .own :=
  ej_callB sc_min2 (call_min2 hc) hg hm (by decide +kernel) ha ho (by decide) (by decide) he hpl
end

inductive FR where
  | stuck | ret (d : D) (outs : List D) | exc (c : Str) (p : D) (outs : List D)
def outsR (K : PySem.W.Frag) (ce : CE) (io : List Nat) (vs : List V) (H : Hp) (lab : Labs) (outs : List D) : Prop := ∀ (q : Nat) (i : Nat), io[q]? = some i → ∃ v d, vs[i]? = some v ∧ outs[q]? = some d ∧ VR K ce H lab .own (.slt i) v d
def PayM (K : PySem.W.Frag) (ce : CE) (H : Hp) (lab : Labs) (c : Str) (p : D) (dd : Option Addr) : Prop := match pfOf c with
  | none => p = .non ∧ dd = none
  | some f => ∃ (d : Addr) (v : V) (j : Nat), dd = some d ∧ H d = some (.xd [(f, v)]) ∧ lab d = .tmp j ∧ VR K ce H lab .own (.tmp j) v p
def retK (b : Bool) : Kd := if b then .own else .bor [.prm]
/-- the promise: np parameters, of which those at io are changed in place; own: what comes back is new -/
def parK (io xs : List Nat) (i : Nat) : Kd := if io.contains i then .own else if xs.contains i then .exc [.prm] else .bor [.prm]
def spD (K : PySem.W.Frag) (ce : CE) (np : Nat) (io xs : List Nat) (own : Bool) (F : List D → FR) : Sp := fun vs H Q E => ∃ (ds : List D) (lab : Labs), vs.length = np ∧ ds.length = np ∧
  (∀ (i : Nat) v d, vs[i]? = some v → ds[i]? = some d → VR K ce H lab (parK io xs i) (.slt i) v d) ∧
  (∀ a, H a ≠ none → lab a = .out ∨ lab a = .prm ∨ ∃ i ∈ io, lab a = .slt i) ∧
  match F ds with
  | .stuck => False
  | .ret d outs => ∀ v H' lab' j, Pres io 0 H lab H' lab' → outsR K ce io vs H' lab' outs → VR K ce H' lab' (retK own) (.tmp j) v d → Q v H'
  | .exc c p outs => ∀ H' lab' C dd, ce.cl c C → Pres io 0 H lab H' lab' → outsR K ce io vs H' lab' outs → PayM K ce H' lab' c p dd → E (.ref C) dd H'
end Ow


namespace Ow
open PySem PySem.Spec PyProof.Rows L2
def leK : Kd → Kd → Bool
  | .own, .own => true
  | .bor R, .bor R' => R.all (R'.contains ·)
  | .spn R, .spn R' => R.all (R'.contains ·)
  | .exc R, .exc R' => R.all (R'.contains ·) && (!R'.contains .out || R.contains .out)
  | _, _ => false
/-- .. at slot i: one's own leans on itself -/
def leKi (i : Nat) (k k' : Kd) : Bool := leK k k' || match k, k' with
  | .own, .bor R => R.contains (.slt i)
  | _, _ => false
def leC (Γ Γ' : Ctx) : Bool := (List.range Γ'.length).all fun i => match Γ'[i]? with
  | some (some k') => (match Γ[i]? with
    | some (some k) => leKi i k k'
    | _ => false)
  | _ => true
theorem bw.mono {R R' : List Lab} (h : R.all (R'.contains ·) = true) {l : Lab} (b : bw R l) : bw R' l := b.elim .inl fun z => .inr (by
  have := List.all_eq_true.mp h _ z
  simpa using this)
section
variable {K : PySem.W.Frag} {cl : CE} {H H' : Hp} {lab lab' : Labs} {k k' : Kd} {t : Lab} {v : V} {d : D}
theorem VR.le (h : VR K cl H lab k t v d) (e : leK k k' = true) : VR K cl H lab k' t v d := by
  cases k with
  | own => cases k' with
    | own => exact h
    | _ => cases e
  | bor R => cases k' with
    | bor R' =>
      obtain ⟨fp, r, l⟩ := h
      exact ⟨fp, r, fun a ha => (l a ha).mono e⟩
    | _ => cases e
  | spn R => cases k' with
    | spn R' =>
      obtain ⟨a, vs, ds, fp, e1, e2, ha, r, la, l⟩ := h
      exact ⟨a, vs, ds, fp, e1, e2, ha, r, la, fun b hb => ⟨(l b hb).1, (l b hb).2.mono e⟩⟩
    | _ => cases e
  | exc R => cases k' with
    | exc R' =>
      obtain ⟨fp, r, l, u⟩ := h
      have e : (R.all (R'.contains ·) && (!R'.contains .out || R.contains .out)) = true := e
      rw [Bool.and_eq_true] at e
      refine ⟨fp, r, fun a ha => (l a ha).mono e.1, fun z => ?_⟩
      have mem : Lab.out ∈ R := by
        have z : R'.contains Lab.out = true := by simpa using z
        have := e.2
        rw [z] at this
        simpa using this
      obtain ⟨u1, u2, u3⟩ := u mem
      refine ⟨?_, u2, u3⟩
      have := List.all_eq_true.mp e.1 t u1
      simpa using this
    | _ => cases e
end
theorem leC.at_ {Γ Γ' : Ctx} (h : leC Γ Γ' = true) {i : Nat} {k' : Kd} (e : Γ'[i]? = some (some k')) : ∃ k, Γ[i]? = some (some k) ∧ leKi i k k' = true := by
  have := List.all_eq_true.mp h i (List.mem_range.mpr (List.getElem?_eq_some_iff.mp e).1)
  rw [e] at this
  dsimp only at this
  split at this
  · rename_i k e2
    exact ⟨k, e2, this⟩
  · cases this
theorem VR.lei {K : PySem.W.Frag} {cl : CE} {H : Hp} {lab : Labs} {k k' : Kd} {i : Nat} {v : V} {d : D} (h : VR K cl H lab k (.slt i) v d) (e : leKi i k k' = true) : VR K cl H lab k' (.slt i) v d := by
  unfold leKi at e
  rcases Bool.or_eq_true_iff.mp e with e | e
  · exact h.le e
  · split at e
    · obtain ⟨fp, r, _, l⟩ := h
      exact ⟨fp, r, fun a ha => .inr (by rw [l a ha]; simpa using e)⟩
    · cases e
theorem SR.weak {X : Cx} {Γ Γ' : Ctx} {σ : St} {H : Hp} {lab : Labs} {σD : List D} (s : SR X Γ σ H lab σD) (h : leC Γ Γ' = true) : SR X Γ' σ H lab σD := ⟨s.l1, s.l2, fun i k' e => by
  obtain ⟨k, e1, e2⟩ := leC.at_ h e
  obtain ⟨v, d, a, b, c⟩ := s.at_ i k e1
  exact ⟨v, d, a, b, c.lei e2⟩⟩
def slotAt (ks : List AK) (i : Nat) : Option Nat := match ks[i]? with
  | some (.slot r) => some r
  | _ => none
def slotPos (ks : List AK) : List Nat := (List.range ks.length).filter fun i => (slotAt ks i).isSome
def rsOf (ks : List AK) : List Nat := (slotPos ks).filterMap (slotAt ks)
def posA (ks : List AK) (r : Nat) : Option Nat := (List.range ks.length).find? fun i => slotAt ks i == some r
def uniqA (ks : List AK) : Bool := (List.range ks.length).all fun i => (List.range ks.length).all fun j => (slotAt ks i).isNone || (slotAt ks i != slotAt ks j) || (i == j)
theorem slotAt_lt {ks : List AK} {i r : Nat} (h : slotAt ks i = some r) : i < ks.length := by
  unfold slotAt at h
  split at h
  · rename_i e; exact (List.getElem?_eq_some_iff.mp e).1
  · cases h
theorem uniqA.at_ {ks : List AK} (u : uniqA ks = true) {i j r : Nat} (hi : slotAt ks i = some r) (hj : slotAt ks j = some r) : i = j := by
  have := List.all_eq_true.mp (List.all_eq_true.mp u i (List.mem_range.mpr (slotAt_lt hi))) j (List.mem_range.mpr (slotAt_lt hj))
  rw [hi, hj] at this
  simpa using this
theorem posA_of {ks : List AK} (u : uniqA ks = true) {i r : Nat} (h : slotAt ks i = some r) : posA ks r = some i := by
  unfold posA
  cases e : (List.range ks.length).find? fun i => slotAt ks i == some r with
  | none =>
    have := List.find?_eq_none.mp e i (List.mem_range.mpr (slotAt_lt h))
    simp [h] at this
  | some j =>
    have q := List.find?_some e
    have q : slotAt ks j = some r := by simpa using q
    rw [uniqA.at_ u h q]
theorem of_posA {ks : List AK} {i r : Nat} (h : posA ks r = some i) : slotAt ks i = some r := by
  have := List.find?_some h
  simpa using this
theorem mem_slotPos {ks : List AK} {i : Nat} : i ∈ slotPos ks ↔ ∃ r, slotAt ks i = some r := by
  unfold slotPos
  rw [List.mem_filter, List.mem_range, Option.isSome_iff_exists]
  exact ⟨fun h => h.2, fun ⟨r, h⟩ => ⟨slotAt_lt h, r, h⟩⟩
theorem mem_rsOf {ks : List AK} {r : Nat} : r ∈ rsOf ks ↔ ∃ i, slotAt ks i = some r := by
  unfold rsOf
  rw [List.mem_filterMap]
  exact ⟨fun ⟨i, _, h⟩ => ⟨i, h⟩, fun ⟨i, h⟩ => ⟨i, mem_slotPos.mpr ⟨r, h⟩, h⟩⟩
theorem AR.at_ {X : Cx} {σ : St} {σD : List D} {H : Hp} {lab : Labs} : ∀ {ks : List AK} {n : Nat} {vs : List V} {ds : List D} {i : Nat} {v : V} {d : D}, AR X σ σD H lab n ks vs ds → vs[i]? = some v → ds[i]? = some d →
    (∃ k, ks[i]? = some (.val k) ∧ VR X.K (clX X) H lab k (.tmp (n + i)) v d) ∨ ∃ r, ks[i]? = some (.slot r) ∧ σ[r]? = some (some v) ∧ d = σD.getD r .non
  | [], n, _, _, i, _, _, ⟨e1, e2⟩, h1, _ => by subst e1; simp at h1
  | .val k :: ks, n, _, _, 0, _, _, ⟨v, vs', d, ds', e1, e2, r, h⟩, h1, h2 => by
    subst e1 e2
    simp at h1 h2
    subst h1 h2
    exact .inl ⟨k, rfl, r⟩
  | .slot s :: ks, n, _, _, 0, _, _, ⟨v, vs', ds', e1, e2, r, h⟩, h1, h2 => by
    subst e1 e2
    simp at h1 h2
    subst h1
    exact .inr ⟨s, rfl, r, by rw [← h2]; simp⟩
  | .val k :: ks, n, _, _, i + 1, _, _, ⟨v, vs', d, ds', e1, e2, r, h⟩, h1, h2 => by
    subst e1 e2
    rcases AR.at_ (i := i) h (by simpa using h1) (by simpa using h2) with ⟨k', a, b⟩ | q
    · exact .inl ⟨k', by simpa using a, by rw [show n + (i + 1) = n + 1 + i by omega]; exact b⟩
    · exact .inr (by simpa using q)
  | .slot s :: ks, n, _, _, i + 1, _, _, ⟨v, vs', ds', e1, e2, r, h⟩, h1, h2 => by
    subst e1 e2
    rcases AR.at_ (i := i) h (by simpa using h1) (by simpa using h2) with ⟨k', a, b⟩ | q
    · exact .inl ⟨k', by simpa using a, by rw [show n + (i + 1) = n + 1 + i by omega]; exact b⟩
    · exact .inr (by simpa using q)
def posL (ks : List AK) : Lab → Option Nat
  | .slt r => posA ks r
  | _ => none
def visL (n : Nat) (ks : List AK) (l : Lab) : Bool := match l with
  | .fro => true
  | .tmp j => decide (n ≤ j) || (unionR ks).contains l
  | l => (unionR ks).contains l
def labIn (n : Nat) (ks : List AK) (lab : Labs) : Labs := fun a => match posL ks (lab a) with
  | some i => .slt i
  | none => if visL n ks (lab a) = true then .prm else .out
def labOut (own : Bool) (n : Nat) (ks : List AK) (H : Hp) (lab lab' : Labs) : Labs := fun a => if (H a).isSome = true ∧ posL ks (lab a) = none then (if own then lab a else colF n lab a) else match lab' a with
  | .slt i => (match slotAt ks i with
    | some r => .slt r
    | none => .fro)
  | .tmp _ => .tmp n
  | _ => .fro
def callK (own : Bool) (ks : List AK) : Kd := if own then .own else .bor (unionR ks)
/-- the labels that lean on no slot of the call -/
def freeR (ks : List AK) (R : List Lab) : Bool := R.all fun l => (posL ks l).isNone
def putOuts : List Nat → List D → List D → List D
  | r :: rs, o :: os, σ => putOuts rs os (σ.set r o)
  | _, _, σ => σ
theorem putOuts_len : ∀ (rs : List Nat) (os σ : List D), (putOuts rs os σ).length = σ.length
  | [], _, _ => rfl
  | _ :: _, [], _ => rfl
  | r :: rs, o :: os, σ => by rw [putOuts, putOuts_len, List.length_set]
theorem putOuts_ne : ∀ (rs : List Nat) (os σ : List D) {i : Nat}, i ∉ rs → (putOuts rs os σ)[i]? = σ[i]?
  | [], _, _, _, _ => rfl
  | _ :: _, [], _, _, _ => rfl
  | r :: rs, o :: os, σ, i, h => by
    rw [putOuts, putOuts_ne rs os _ fun z => h (List.mem_cons_of_mem _ z), List.getElem?_set_ne]
    rintro rfl
    exact h List.mem_cons_self
theorem putOuts_at : ∀ (rs : List Nat) (os σ : List D) {q r : Nat} {d : D}, rs.Nodup → rs[q]? = some r → os[q]? = some d → r < σ.length → (putOuts rs os σ)[r]? = some d
  | [], _, _, _, _, _, _, h, _, _ => by simp at h
  | _ :: _, [], _, _, _, _, _, _, h, _ => by simp at h
  | r :: rs, o :: os, σ, 0, _, _, nd, h1, h2, h3 => by
    simp at h1 h2
    subst h1 h2
    rw [putOuts, putOuts_ne rs os _ (List.nodup_cons.mp nd).1, List.getElem?_set_self h3]
  | r :: rs, o :: os, σ, q + 1, r', d, nd, h1, h2, h3 => by
    rw [putOuts]
    exact putOuts_at rs os _ (q := q) (List.nodup_cons.mp nd).2 (by simpa using h1) (by simpa using h2) (by rw [List.length_set]; exact h3)
def eCall (F : List D → FR) (rs : List Nat) (gs : List D → ER (List D)) : List D → ER D := fun σ => (gs σ).bind fun ds σ1 => match F ds with
  | .stuck => .stuck
  | .ret d outs => .ok d (putOuts rs outs σ1)
  | .exc c p outs => .exc c p (putOuts rs outs σ1)
def isOwnAt (Γ : Ctx) (r : Nat) : Bool := match Γ[r]? with
  | some (some .own) => true
  | _ => false
theorem isOwnAt.at_ {Γ : Ctx} {r : Nat} (h : isOwnAt Γ r = true) : Γ[r]? = some (some .own) := by
  unfold isOwnAt at h
  split at h
  · assumption
  · cases h
/-- the slots that live are at rs, or lean on none of the call's slots -/
def restOk (Γ : Ctx) (ks : List AK) (rs : List Nat) : Bool := (List.range Γ.length).all fun i => match Γ[i]? with
  | some (some .own) => true
  | some (some (.bor R)) => !rs.contains i && freeR ks R
  | some (some (.spn R)) => !rs.contains i && freeR ks R
  | some (some (.exc R)) => !rs.contains i && freeR ks R
  | _ => true
def isEx (ks : List AK) (i : Nat) : Bool := match ks[i]? with
  | some (.val (.exc _)) => true
  | _ => false
def excPos (ks : List AK) : List Nat := (List.range ks.length).filter (isEx ks)
theorem excPos_has {ks : List AK} {i : Nat} : (excPos ks).contains i = isEx ks i := by
  cases e : isEx ks i with
  | true =>
    have : i ∈ excPos ks := by
      unfold excPos
      rw [List.mem_filter, List.mem_range]
      refine ⟨?_, e⟩
      unfold isEx at e
      split at e
      · rename_i h; exact (List.getElem?_eq_some_iff.mp h).1
      · cases e
    simpa using this
  | false =>
    cases z : (excPos ks).contains i with
    | false => rfl
    | true =>
      have : i ∈ excPos ks := by simpa using z
      unfold excPos at this
      rw [List.mem_filter, e] at this
      cases this.2
structure CallOk (Γ Γx : Ctx) (n np : Nat) (io xs : List Nat) (ks : List AK) (rs : List Nat) : Prop where
  x : excPos ks = xs
  u : uniqA ks = true
  l : ks.length = np
  i : slotPos ks = io
  r : rsOf ks = rs
  nd : rs.Nodup
  o : rs.all (isOwnAt Γ) = true
  rest : restOk Γ ks rs = true
  fr : freeR ks (unionR ks) = true
  lx : leC Γ Γx = true
section
variable {X : Cx} {W : WX} {Γx Γ : Ctx} {n : Nat} {m : List Nat} {ks : List AK} {rs io xs : List Nat} {σ : St} {H H' : Hp} {lab lab' : Labs} {σD : List D} {np : Nat} {own : Bool}
theorem posL_slot (u : uniqA ks = true) {i r : Nat} (h : slotAt ks i = some r) : posL ks (.slt r) = some i := posA_of u h
theorem of_posL {l : Lab} {i : Nat} (h : posL ks l = some i) : ∃ r, l = .slt r ∧ slotAt ks i = some r := by
  cases l with
  | slt r => exact ⟨r, rfl, of_posA h⟩
  | _ => cases h
theorem keep_posL (c : CallOk Γ Γx n np io xs ks rs) {l : Lab} (h : keepL rs n l = true) : posL ks l = none := by
  cases e : posL ks l with
  | none => rfl
  | some i =>
    obtain ⟨r, rfl, hr⟩ := of_posL e
    have : r ∈ rs := by rw [← c.r]; exact mem_rsOf.mpr ⟨i, hr⟩
    simp [keepL, this] at h
theorem free_bw {R : List Lab} (h : freeR ks R = true) {l : Lab} (b : bw R l) : posL ks l = none := by
  rcases b with rfl | b
  · rfl
  · have := List.all_eq_true.mp h l b
    simpa using this
/-- what the callee gets -/
theorem call_args (c : CallOk Γ Γx n np io xs ks rs) (s : SR X Γ σ H lab σD) {vs : List V} {ds : List D} (r : AR X σ σD H lab n ks vs ds) : ∀ (i : Nat) v d, vs[i]? = some v → ds[i]? = some d → VR X.K (clX X) H (labIn n ks lab) (parK io xs i) (.slt i) v d := by
  intro i v d h1 h2
  have prm : ∀ {a : Addr}, posL ks (lab a) = none → visL n ks (lab a) = true → labIn n ks lab a = .prm := fun {a} e1 e2 => by
    unfold labIn
    rw [e1]
    dsimp only
    rw [if_pos e2]
  rcases r.at_ h1 h2 with ⟨k, hk, hr⟩ | ⟨q, hk, hσ, rfl⟩
  · have hs : slotAt ks i = none := by unfold slotAt; rw [hk]
    have hio : io.contains i = false := by
      rw [← c.i]
      cases z : (slotPos ks).contains i with
      | false => rfl
      | true =>
        have : i ∈ slotPos ks := by simpa using z
        obtain ⟨r, e⟩ := mem_slotPos.mp this
        rw [hs] at e; cases e
    have hx : xs.contains i = isEx ks i := by rw [← c.x]; exact excPos_has
    unfold parK
    rw [hio, hx]
    unfold isEx
    rw [hk]
    have hu : ∀ l ∈ labsA (.val k), l ∈ unionR ks := fun l hl => List.mem_flatMap.mpr ⟨_, List.mem_of_getElem? hk, hl⟩
    have tmpv : ∀ {a : Addr} {j : Nat}, lab a = .tmp j → n ≤ j → labIn n ks lab a = .prm := fun {a j} e hj => prm (by rw [e]; rfl) (by rw [e]; simp [visL, hj])
    have bwv : ∀ {a : Addr} {R : List Lab}, (∀ l ∈ R, l ∈ unionR ks) → bw R (lab a) → labIn n ks lab a = .prm := fun {a R} hR b => by
      refine prm (free_bw c.fr (b.elim .inl fun z => .inr (hR _ z))) ?_
      rcases b with e | b
      · rw [e]; rfl
      · have := hR _ b
        cases e : lab a with
        | fro => rfl
        | tmp j => rw [e] at this; simp [visL, this]
        | _ => rw [e] at this; simp [visL, this]
    cases k with
    | own =>
      obtain ⟨fp, r, nd, l⟩ := hr
      exact ⟨fp, r, fun a ha => .inr (by rw [tmpv (l a ha) (Nat.le_add_right _ _)]; exact List.mem_cons_self)⟩
    | bor R =>
      obtain ⟨fp, r, l⟩ := hr
      exact ⟨fp, r, fun a ha => .inr (by rw [bwv hu (l a ha)]; exact List.mem_cons_self)⟩
    | spn R =>
      obtain ⟨p, ws, es, fp, rfl, rfl, hp, r, lp, l⟩ := hr
      refine ⟨p :: fp, .lst hp r, fun a ha => .inr ?_⟩
      rcases List.mem_cons.mp ha with e | e
      · rw [e, tmpv lp (Nat.le_add_right _ _)]; exact List.mem_cons_self
      · rw [bwv hu (l a e).2]; exact List.mem_cons_self
    | exc R =>
      obtain ⟨fp, r, l, _⟩ := hr
      exact ⟨fp, r, fun a ha => .inr (by rw [bwv hu (l a ha)]; exact List.mem_cons_self), fun z => by simp at z⟩
  · have hs : slotAt ks i = some q := by unfold slotAt; rw [hk]
    have hio : io.contains i = true := by
      rw [← c.i]
      simpa using mem_slotPos.mpr ⟨q, hs⟩
    unfold parK
    rw [hio]
    have hq : q ∈ rs := by rw [← c.r]; exact mem_rsOf.mpr ⟨i, hs⟩
    have ho := isOwnAt.at_ (List.all_eq_true.mp c.o q hq)
    obtain ⟨w, hw, fp, r, nd, l⟩ := s.get ho
    rw [hσ] at hw
    cases hw
    refine ⟨fp, r, nd, fun a ha => ?_⟩
    unfold labIn
    rw [l a ha, posL_slot c.u hs]
theorem call_labs (c : CallOk Γ Γx n np io xs ks rs) : ∀ a, H a ≠ none → labIn n ks lab a = .out ∨ labIn n ks lab a = .prm ∨ ∃ i ∈ io, labIn n ks lab a = .slt i := by
  intro a _
  unfold labIn
  cases e : posL ks (lab a) with
  | some i =>
    obtain ⟨r, e1, e2⟩ := of_posL e
    exact .inr (.inr ⟨i, by rw [← c.i]; exact mem_slotPos.mpr ⟨r, e2⟩, rfl⟩)
  | none =>
    dsimp only
    split
    · exact .inr (.inl rfl)
    · exact .inl rfl
/-- an address that is not the call's slots' stays -/
theorem call_stay (p : Pres io 0 H (labIn n ks lab) H' lab') {a : Addr} (ha : H a ≠ none) (e : posL ks (lab a) = none) : H' a = H a ∧ lab' a = labIn n ks lab a ∧ oldL (lab' a) = true := by
  have h1 : labIn n ks lab a = .prm ∨ labIn n ks lab a = .out := by
    unfold labIn
    rw [e]
    dsimp only
    split
    · exact .inl rfl
    · exact .inr rfl
  have h2 := p.keep a ha (by rcases h1 with h1 | h1 <;> rw [h1] <;> rfl)
  exact ⟨h2.1, h2.2, by rw [h2.2]; rcases h1 with h1 | h1 <;> rw [h1] <;> rfl⟩
theorem labOut_stay {a : Addr} (ha : H a ≠ none) (e : posL ks (lab a) = none) : labOut own n ks H lab lab' a = if own then lab a else colF n lab a := by
  unfold labOut
  rw [if_pos ⟨by cases q : H a with | none => exact absurd q ha | some _ => rfl, e⟩]
theorem labOut_new {a : Addr} (h : H a = none ∨ posL ks (lab a) ≠ none) : labOut own n ks H lab lab' a = match lab' a with
  | .slt i => (match slotAt ks i with
    | some r => .slt r
    | none => .fro)
  | .tmp _ => .tmp n
  | _ => .fro := by
  unfold labOut
  rw [if_neg]
  rintro ⟨h1, h2⟩
  rcases h with h | h
  · rw [h] at h1; cases h1
  · exact h h2
/-- a new label of the callee's -/
theorem call_new (p : Pres io 0 H (labIn n ks lab) H' lab') {a : Addr} (h : oldL (lab' a) = false) : H a = none ∨ posL ks (lab a) ≠ none := by
  by_cases ha : H a = none
  · exact .inl ha
  · by_cases e : posL ks (lab a) = none
    · rw [(call_stay p ha e).2.2] at h; cases h
    · exact .inr e
theorem call_pres (c : CallOk Γ Γx n np io xs ks rs) (p : Pres io 0 H (labIn n ks lab) H' lab') : Pres rs n H lab H' (labOut own n ks H lab lab') where
  keep := fun a ha hk => by
    have e := keep_posL c hk
    refine ⟨(call_stay p ha e).1, ?_⟩
    rw [labOut_stay ha e]
    split
    · rfl
    · exact colF_keep hk
  tk := p.tk
  there := p.there
  old := fun a ha ho => by
    by_cases q : H a = none ∨ posL ks (lab a) ≠ none
    · rw [labOut_new q] at ho
      split at ho
      · split at ho <;> cases ho
      · cases ho
      · cases ho
    · have h1 : H a ≠ none := fun z => q (.inl z)
      have h2 : posL ks (lab a) = none := Classical.byContradiction fun z => q (.inr z)
      refine ⟨h1, ?_⟩
      rw [labOut_stay h1 h2] at ho ⊢
      split
      · rfl
      · rename_i z
        rw [if_neg z] at ho
        exact colF_old ho
theorem call_own (p : Pres io 0 H (labIn n ks lab) H' lab') {v : V} {d : D} {j : Nat} (h : VR X.K (clX X) H' lab' .own (.tmp j) v d) : VR X.K (clX X) H' (labOut own n ks H lab lab') .own (.tmp n) v d := by
  obtain ⟨fp, r, nd, l⟩ := h
  refine ⟨fp, r, nd, fun a ha => ?_⟩
  rw [labOut_new (call_new p (by rw [l a ha]; rfl)), l a ha]
theorem call_bor (c : CallOk Γ Γx n np io xs ks rs) (p : Pres io 0 H (labIn n ks lab) H' lab') {v : V} {d : D} {t t' : Lab} (h : VR X.K (clX X) H' lab' (.bor [.prm]) t v d) : VR X.K (clX X) H' (labOut false n ks H lab lab') (.bor (unionR ks)) t' v d := by
  obtain ⟨fp, r, l⟩ := h
  refine ⟨fp, r, fun a ha => ?_⟩
  rcases l a ha with e | e
  · rw [labOut_new (call_new p (by rw [e]; rfl)), e]
    exact .inl rfl
  · have e : lab' a = .prm := List.mem_singleton.mp e
    obtain ⟨h1, h2⟩ := p.old a (by obtain ⟨o, q, _⟩ := r.alloc a ha; rw [q]; simp) (by rw [e]; rfl)
    rw [e] at h2
    have h3 : posL ks (lab a) = none := by
      cases z : posL ks (lab a) with
      | none => rfl
      | some i => unfold labIn at h2; rw [z] at h2; cases h2
    have h4 : visL n ks (lab a) = true := by
      unfold labIn at h2
      rw [h3] at h2
      dsimp only at h2
      split at h2
      · assumption
      · cases h2
    rw [labOut_stay h1 h3]
    show bw _ (colF n lab a)
    refine bw_colF ?_
    cases z : lab a with
    | fro => exact .inr (.inl rfl)
    | tmp j =>
      rw [z] at h4
      simp [visL] at h4
      rcases h4 with h4 | h4
      · exact .inl ⟨j, h4, rfl⟩
      · exact .inr (.inr h4)
    | _ =>
      rw [z] at h4
      simp [visL] at h4
      exact .inr (.inr h4)
/-- the slots behind the call -/
theorem call_slots (c : CallOk Γ Γx n np io xs ks rs) (g : gok Γ n = true) (s : SR X Γ σ H lab σD) {vs : List V} {ds : List D} (r : AR X σ σD H lab n ks vs ds) (p : Pres io 0 H (labIn n ks lab) H' lab') {outs : List D} (o : outsR X.K (clX X) io vs H' lab' outs) :
    SR X Γ σ H' (labOut own n ks H lab lab') (putOuts rs outs σD) := by
  refine ⟨s.l1, by rw [putOuts_len]; exact s.l2, fun i k e => ?_⟩
  obtain ⟨v, d, a, b, vr⟩ := s.at_ i k e
  by_cases hi : i ∈ rs
  · have hk : k = .own := by
      have := isOwnAt.at_ (List.all_eq_true.mp c.o i hi)
      rw [e] at this; cases this; rfl
    subst hk
    obtain ⟨q, hq⟩ := List.mem_iff_getElem?.mp hi
    -- the q-th slot of the call
    have hpos : ∃ j, io[q]? = some j ∧ slotAt ks j = some i := by
      have e1 : rsOf ks = (slotPos ks).filterMap (slotAt ks) := rfl
      have e2 : ∀ l : List Nat, (∀ x ∈ l, ∃ r, slotAt ks x = some r) → ∀ (q r : Nat), (l.filterMap (slotAt ks))[q]? = some r → ∃ j : Nat, l[q]? = some j ∧ slotAt ks j = some r := by
        intro l
        induction l with
        | nil => intro _ q r h; simp at h
        | cons x l ih =>
          intro hl q r h
          obtain ⟨rx, hx⟩ := hl x List.mem_cons_self
          rw [List.filterMap_cons, hx] at h
          cases q with
          | zero => simp at h; subst h; exact ⟨x, rfl, hx⟩
          | succ q =>
            obtain ⟨j, h1, h2⟩ := ih (fun y hy => hl y (List.mem_cons_of_mem _ hy)) q r (by simpa using h)
            exact ⟨j, by simpa using h1, h2⟩
      rw [← c.i]
      exact e2 _ (fun x hx => mem_slotPos.mp hx) q i (by rw [← e1, c.r]; exact hq)
    obtain ⟨j, hj, hs⟩ := hpos
    obtain ⟨v', d', h1, h2, fp, rr, nd, l⟩ := o q j hj
    have hv : v' = v := by
      have hlt : j < ds.length := by
        have h3 := (List.getElem?_eq_some_iff.mp h1).1
        have := r.len
        omega
      rcases r.at_ h1 (List.getElem?_eq_getElem hlt) with ⟨k, hk, _⟩ | ⟨q', hk, hσ, _⟩
      · unfold slotAt at hs; rw [hk] at hs; cases hs
      · unfold slotAt at hs
        rw [hk] at hs
        cases hs
        rw [a] at hσ
        cases hσ; rfl
    subst hv
    refine ⟨v', d', a, putOuts_at rs outs σD c.nd hq h2 (List.getElem?_eq_some_iff.mp b).1, fp, rr, nd, fun x hx => ?_⟩
    rw [labOut_new (call_new p (by rw [l x hx]; rfl)), l x hx]
    dsimp only
    rw [hs]
  · refine ⟨v, d, a, by rw [putOuts_ne rs outs σD hi]; exact b, vr.pres (call_pres c p) ?_ (by simp [keepL, hi])⟩
    have hg := gok.at_ g e
    have hr := List.all_eq_true.mp c.rest i (List.mem_range.mpr (List.getElem?_eq_some_iff.mp e).1)
    rw [e] at hr
    have key : ∀ R : List Lab, freeR ks R = true → R.all (keepL [] n) = true → R.all (keepL rs n) = true := fun R h1 h2 => List.all_eq_true.mpr fun l hl => by
      have z1 := List.all_eq_true.mp h1 l hl
      have z2 := List.all_eq_true.mp h2 l hl
      cases l with
      | slt r =>
        simp only [keepL, Bool.not_eq_true', List.contains_eq_mem, decide_eq_false_iff_not]
        intro hm
        rw [← c.r] at hm
        obtain ⟨j, hj⟩ := mem_rsOf.mp hm
        rw [posL_slot c.u hj] at z1
        cases z1
      | _ => exact z2
    cases k with
    | own => rfl
    | bor R =>
      simp only [Bool.and_eq_true] at hr
      exact key R hr.2 hg
    | spn R =>
      simp only [Bool.and_eq_true] at hr
      exact key R hr.2 hg
    | exc R =>
      simp only [Bool.and_eq_true] at hr
      exact key R hr.2 hg
theorem call_pay (p : Pres io 0 H (labIn n ks lab) H' lab') {c : Str} {py : D} {dd : Option Addr} (h : PayM X.K (clX X) H' lab' c py dd) : PayOk X H' (labOut own n ks H lab lab') n c py dd := by
  unfold PayM at h
  unfold PayOk
  split at h
  · rename_i e; first | (rw [e]; exact h) | exact h
  · rename_i f e
    try rw [e]
    obtain ⟨d, v, j, h1, h2, hl, h3⟩ := h
    exact ⟨d, v, n, h1, h2, by rw [labOut_new (call_new p (by rw [hl]; rfl)), hl], Nat.le_refl _, call_own p h3⟩
end
section
variable {X : Cx} {W : WX} {Γx Γ : Ctx} {n lv np : Nat} {m : List Nat} {ks : List AK} {rs io xs : List Nat} {own : Bool} {Fd : List D → FR} {f : Addr} {fd : FuncData} {ps : List Str} {x : Str} {p pos : Pos} {e : Expr} {es : List Expr} {gs : List D → ER (List D)}
/-- the same names -/
structure CEq (a b : CE) : Prop where
  c1 : ∀ c C, a.cl c C → b.cl c C
  c2 : ∀ c C, b.cl c C → a.cl c C
  e1 : ∀ c x d, a.ex c x d → b.ex c x d
  e2 : ∀ c x d, b.ex c x d → a.ex c x d
theorem CEq.calm (hc : X.calm = true) : CEq (clX X) (clM X.mg) := ⟨fun _ _ h => h, fun _ _ h => h, fun _ _ _ h => absurd (hc.symm.trans h.1) (by decide), fun _ _ _ h => False.elim h⟩
theorem outsR.ce {K : PySem.W.Frag} {a b : CE} {vs : List V} {H : Hp} {lab : Labs} {outs : List D} (h : outsR K a io vs H lab outs) (q : CEq a b) : outsR K b io vs H lab outs := fun x i e => by
  obtain ⟨v, d, h1, h2, h3⟩ := h x i e
  exact ⟨v, d, h1, h2, h3.ce q.c1 q.e1⟩
theorem CEq.symm {a b : CE} (q : CEq a b) : CEq b a := ⟨q.c2, q.c1, q.e2, q.e1⟩
theorem PayM.ce {K : PySem.W.Frag} {a b : CE} {H : Hp} {lab : Labs} {c : Str} {p : D} {dd : Option Addr} (h : PayM K a H lab c p dd) (q : CEq a b) : PayM K b H lab c p dd := by
  unfold PayM at h ⊢
  split at h
  · exact h
  · obtain ⟨d, v, j, h1, h2, hl, h3⟩ := h
    exact ⟨d, v, j, h1, h2, hl, h3.ce q.c1 q.e1⟩
theorem spD_call {ce : CE} (tk : L2N.Takes X W) (qe : CEq (clX X) ce) (c : CallOk Γ Γx n np io xs ks rs) {σ : St} {H : Hp} {lab : Labs} {σD : List D} {ds : List D} {vs : List V} {Q : VK} (g : gok Γ n = true) (s : SR X Γ σ H lab σD) (r : AR X σ σD H lab n ks vs ds)
    (po : Post X W Γx Γ σ rs n (relE X n (callK own ks)) H lab Q (match Fd ds with
      | .stuck => .stuck
      | .ret d outs => .ok d (putOuts rs outs σD)
      | .exc c p outs => .exc c p (putOuts rs outs σD))) : spD X.K ce np io xs own Fd vs H Q (WE W σ) := by
  refine ⟨ds, labIn n ks lab, by rw [r.len.1, c.l], by rw [r.len.2, c.l], fun i v d h1 h2 => (call_args c s r i v d h1 h2).ce qe.c1 qe.e1, call_labs c, ?_⟩
  cases e : Fd ds with
  | stuck => rw [e] at po; exact po.elim
  | ret d outs =>
    rw [e] at po
    intro v H' lab' j pp oo vr
    refine po v H' (labOut own n ks H lab lab') (call_slots c g s r pp (oo.ce qe.symm)) (call_pres c pp) ?_
    have vr := VR.ce vr qe.c2 qe.e2
    cases own with
    | true => exact call_own pp vr
    | false => exact call_bor c pp vr
  | exc cn py outs =>
    rw [e] at po
    intro H' lab' C dd hc pp oo pay
    exact po H' (labOut own n ks H lab lab') C dd (qe.c2 _ _ hc) ((call_slots c g s r pp (oo.ce qe.symm)).weak c.lx) (call_pres c pp) (call_pay pp (pay.ce qe.symm))
theorem ej_call (F : FnOk X.prog X.w X.K X.mg X.base (L2N.CX X.prog X.w) lv f fd ps (spD X.K (clM X.mg) np io xs own Fd)) (hc : X.calm = true) (hr : Room lv X.A) (hm : X.mg x = some (.ref f)) (hk : PySem.W.keepIn X.K (.ref f) = true) (hb : Binds X.K fd ps []) (tk : L2N.Takes X W)
    (ha : AJ X W Γx Γ n m (e :: es) gs ks) (c : CallOk Γ Γx n np io xs ks rs) (hg : Gl X x := by rfl) (hdb : (x == ("__debug__" : Str)) = false := by decide) (he : starEach (e :: es) X.env = (false, eval e X.env) :: starEach es X.env := by rfl) (hpl : (backTo pos (starEach es X.env)).any (·.1) = false := by rfl) :
    EJ X W Γx Γ n (m ++ rs) (.Call (.Name x p) (e :: es) [] pos) (eCall Fd rs gs) (callK own ks) := by
  refine pe_imp (pe_callS F hr hg hm hk hb (fun σ => L2N.passAt tk σ) ha hdb he hpl) fun σ H Q h => ?_
  obtain ⟨σD, lab, g, sr, po⟩ := h
  exact ⟨σD, lab, g, sr, po.seq' fun ds σD1 vs H1 lab1 sr1 pr1 rl1 po1 => spD_call tk (.calm hc) c g sr1 rl1 po1⟩
end
end Ow


namespace Ow
open PySem PySem.Spec PyProof.Rows L2
inductive SO where
  | stuck | nxt (σ : List D) | ret (d : D) (σ : List D) | exc (c : Str) (p : D) (σ : List D) | brk (σ : List D) | cnt (σ : List D)
/-- what is fixed through a body: the slots at a raise, at a return, at break and continue; is what is handed back one's own; the parameters changed in place -/
structure SC where
  Γx : Ctx
  Γr : Ctx
  Γb : Ctx
  own : Bool
  io : List Nat
structure PresW (H : Hp) (lab : Labs) (H' : Hp) (lab' : Labs) : Prop where
  keep : ∀ a, H a ≠ none → keepL [] 0 (lab a) = true → (∀ i, lab a ≠ .slt i) → H' a = H a ∧ lab' a = lab a
  tk : TK H H'
  there : ∀ a, H a ≠ none → H' a ≠ none
  old : ∀ a, H' a ≠ none → oldL (lab' a) = true → H a ≠ none ∧ lab a = lab' a
theorem keep_any {l : Lab} (h : keepL [] 0 l = true) (h2 : ∀ i, l ≠ .slt i) (m : List Nat) (n : Nat) : keepL m n l = true := by
  cases l with
  | slt i => exact absurd rfl (h2 i)
  | tmp j => simp [keepL] at h
  | _ => rfl
theorem Pres.w {m : List Nat} {n : Nat} {H H' : Hp} {lab lab' : Labs} (p : Pres m n H lab H' lab') : PresW H lab H' lab' := ⟨fun a ha h1 h2 => p.keep a ha (keep_any h1 h2 m n), p.tk, p.there, p.old⟩
theorem PresW.trans {H H1 H2 : Hp} {lab lab1 lab2 : Labs} (a : PresW H lab H1 lab1) (b : PresW H1 lab1 H2 lab2) : PresW H lab H2 lab2 where
  keep := fun x hx h1 h2 => by
    obtain ⟨e1, e2⟩ := a.keep x hx h1 h2
    obtain ⟨e3, e4⟩ := b.keep x (a.there x hx) (by rw [e2]; exact h1) (by rw [e2]; exact h2)
    exact ⟨e3.trans e1, e4.trans e2⟩
  tk := a.tk.trans b.tk
  there := fun x hx => b.there x (a.there x hx)
  old := fun x hx ho => by
    obtain ⟨e1, e2⟩ := b.old x hx ho
    obtain ⟨e3, e4⟩ := a.old x e1 (by rw [e2]; exact ho)
    exact ⟨e3, e4.trans e2⟩
/-- the slots, and those of the parameters changed in place are where they were -/
structure SRx (X : Cx) (io : List Nat) (fx : Nat → V) (Γ : Ctx) (σ : St) (H : Hp) (lab : Labs) (σD : List D) : Prop where
  s : SR X Γ σ H lab σD
  f : ∀ i ∈ io, σ[i]? = some (some (fx i))
def PostS (X : Cx) (W : WX) (Z : SC) (fx : Nat → V) (Γ' : Ctx) (m : List Nat) (n : Nat) (H : Hp) (lab : Labs) (E : Ends) : SO → Prop
  | .stuck => False
  | .nxt σD' => ∀ σ' H' lab', SRx X Z.io fx Γ' σ' H' lab' σD' → Pres m n H lab H' lab' → E.nx σ' H'
  | .ret d σD' => ∀ v σ' H' lab' j, SRx X Z.io fx Z.Γr σ' H' lab' σD' → PresW H lab H' lab' → VR X.K (clX X) H' lab' (retK Z.own) (.tmp j) v d → E.rt v H'
  | .exc c p σD' => ∀ σ' H' lab' C dd, X.mg c = some (.ref C) → SRx X Z.io fx Z.Γx σ' H' lab' σD' → Pres m n H lab H' lab' → PayOk X H' lab' n c p dd → W (.ref C) dd σ' H'
  | .brk σD' => ∀ σ' H' lab', SRx X Z.io fx Z.Γb σ' H' lab' σD' → Pres m n H lab H' lab' → E.bk σ' H'
  | .cnt σD' => ∀ σ' H' lab', SRx X Z.io fx Z.Γb σ' H' lab' σD' → Pres m n H lab H' lab' → E.ct σ' H'
def rdS (X : Cx) (W : WX) (Z : SC) (Γ Γ' : Ctx) (n : Nat) (m : List Nat) (G : List D → SO) : TS := fun E σ H => ∃ σD lab fx, gok Γ n = true ∧ SRx X Z.io fx Γ σ H lab σD ∧ PostS X W Z fx Γ' m n H lab E (G σD)
abbrev SJ (X : Cx) (W : WX) (Z : SC) (Γ Γ' : Ctx) (n : Nat) (m : List Nat) (st : Stmt) (G : List D → SO) : Prop := PS X st (rdS X W Z Γ Γ' n m G)
abbrev BJ (X : Cx) (W : WX) (Z : SC) (Γ Γ' : Ctx) (n : Nat) (m : List Nat) (st : List Stmt) (G : List D → SO) : Prop := PSs X st (rdS X W Z Γ Γ' n m G)
section
variable {X : Cx} {W : WX} {Z : SC} {fx : Nat → V} {Γ Γ' Γ1 Γ2 : Ctx} {n n1 : Nat} {m m1 m2 : List Nat} {H H1 : Hp} {lab lab1 : Labs} {E : Ends} {r : SO}
/-- from a later state -/
theorem PostS.later (h : PostS X W Z fx Γ' m n H lab E r) (p : Pres m1 n1 H lab H1 lab1) (s1 : SubK m n m1 n1) (s2 : SubK m n m2 n) : PostS X W Z fx Γ' m2 n H1 lab1 E r := by
  cases r with
  | stuck => exact h
  | nxt σ => exact fun σ' H' lab' s q => h σ' H' lab' s (p.trans q s1 s2)
  | ret d σ => exact fun v σ' H' lab' j s q r => h v σ' H' lab' j s (p.w.trans q) r
  | exc c py σ => exact fun σ' H' lab' C dd hc s q r => h σ' H' lab' C dd hc s (p.trans q s1 s2) r
  | brk σ => exact fun σ' H' lab' s q => h σ' H' lab' s (p.trans q s1 s2)
  | cnt σ => exact fun σ' H' lab' s q => h σ' H' lab' s (p.trans q s1 s2)
theorem PostS.mono (h : PostS X W Z fx Γ' m n H lab E r) (s : SubK m n m1 n1) (hn : n ≤ n1) : PostS X W Z fx Γ' m1 n1 H lab E r := by
  cases r with
  | stuck => exact h
  | nxt σ => exact fun σ' H' lab' s' q => h σ' H' lab' s' (q.mono s)
  | ret d σ => exact h
  | exc c py σ => exact fun σ' H' lab' C dd hc s' q r => h σ' H' lab' C dd hc s' (q.mono s) (r.mono hn)
  | brk σ => exact fun σ' H' lab' s' q => h σ' H' lab' s' (q.mono s)
  | cnt σ => exact fun σ' H' lab' s' q => h σ' H' lab' s' (q.mono s)
def sSeq (G1 G2 : List D → SO) : List D → SO := fun σ => match G1 σ with
  | .nxt σ1 => G2 σ1
  | r => r
def sSkip : List D → SO := fun σ => .nxt σ
theorem seq_imp {t1 t2 : TS} {G1 G2 : List D → SO} (h1 : ∀ E σ H, rdS X W Z Γ Γ1 n m1 G1 E σ H → t1 E σ H) (h2 : ∀ E σ H, rdS X W Z Γ1 Γ2 n m2 G2 E σ H → t2 E σ H) (g : gok Γ1 n = true) : ∀ E σ H, rdS X W Z Γ Γ2 n (m1 ++ m2) (sSeq G1 G2) E σ H → tSeq t1 t2 E σ H := by
  intro E σ H h
  obtain ⟨σD, lab, fx, g0, s, po⟩ := h
  refine h1 _ _ _ ⟨σD, lab, fx, g0, s, ?_⟩
  unfold sSeq at po
  cases e : G1 σD with
  | stuck => rw [e] at po; exact po
  | nxt σ1 =>
    rw [e] at po
    intro σ' H' lab' s' p
    exact h2 _ _ _ ⟨σ1, lab', fx, g, s', PostS.later po p (SubK.left _ _ _) (SubK.right _ _ _)⟩
  | ret d σ1 => rw [e] at po; exact po
  | exc c py σ1 => rw [e] at po; exact fun σ' H' lab' C dd hc s' q r => po σ' H' lab' C dd hc s' (q.mono (SubK.left _ _ _)) r
  | brk σ1 => rw [e] at po; exact fun σ' H' lab' s' q => po σ' H' lab' s' (q.mono (SubK.left _ _ _))
  | cnt σ1 => rw [e] at po; exact fun σ' H' lab' s' q => po σ' H' lab' s' (q.mono (SubK.left _ _ _))
theorem bj_cons {st : Stmt} {rest : List Stmt} {G1 G2 : List D → SO} (h1 : SJ X W Z Γ Γ1 n m1 st G1) (h2 : BJ X W Z Γ1 Γ2 n m2 rest G2) (g : gok Γ1 n = true := by decide) : BJ X W Z Γ Γ2 n (m1 ++ m2) (st :: rest) (sSeq G1 G2) :=
  pss_imp (pss_cons h1 h2) (seq_imp (fun _ _ _ q => q) (fun _ _ _ q => q) g)
theorem bj_one {st : Stmt} {G : List D → SO} (h : SJ X W Z Γ Γ1 n m st G) : BJ X W Z Γ Γ1 n m [st] G := pss_one h
theorem bj_nil : BJ X W Z Γ Γ n [] [] sSkip := pss_imp pss_nil fun E σ H h => by
  obtain ⟨σD, lab, fx, g0, s, po⟩ := h
  exact po σ H lab s (.refl _ _ _ _)
/-- less is known -/
theorem bj_weak {sts : List Stmt} {G : List D → SO} (h : BJ X W Z Γ Γ1 n m sts G) (l : leC Γ1 Γ2 = true := by decide) : BJ X W Z Γ Γ2 n m sts G := pss_imp h fun E σ H hh => by
  obtain ⟨σD, lab, fx, g0, s, po⟩ := hh
  refine ⟨σD, lab, fx, g0, s, ?_⟩
  cases e : G σD with
  | nxt σ1 => rw [e] at po; exact fun σ' H' lab' s' q => po σ' H' lab' ⟨s'.s.weak l, s'.f⟩ q
  | _ => rw [e] at po; exact po
theorem sj_weak {st : Stmt} {G : List D → SO} (h : SJ X W Z Γ Γ1 n m st G) (l : leC Γ1 Γ2 = true := by decide) : SJ X W Z Γ Γ2 n m st G := ps_imp h fun E σ H hh => by
  obtain ⟨σD, lab, fx, g0, s, po⟩ := hh
  refine ⟨σD, lab, fx, g0, s, ?_⟩
  cases e : G σD with
  | nxt σ1 => rw [e] at po; exact fun σ' H' lab' s' q => po σ' H' lab' ⟨s'.s.weak l, s'.f⟩ q
  | _ => rw [e] at po; exact po
def sOf (g : List D → ER D) (k : D → List D → SO) : List D → SO := fun σ => match g σ with
  | .stuck => .stuck
  | .ok d σ1 => k d σ1
  | .exc c p σ1 => .exc c p σ1
theorem sof_imp {te : TE} {g : List D → ER D} {k : Kd} {kk : D → List D → SO} {σ : St} {Q : VK} {σD : List D} (h : ∀ σ H Q, rdE X W Z.Γx Γ n m1 k g σ H Q → te σ H Q) (g0 : gok Γ n = true) (s : SRx X Z.io fx Γ σ H lab σD) (po : PostS X W Z fx Γ' (m1 ++ m2) n H lab E (sOf g kk σD))
    (cont : ∀ d σD1 v H1 lab1, SRx X Z.io fx Γ σ H1 lab1 σD1 → Pres m1 n H lab H1 lab1 → VR X.K (clX X) H1 lab1 k (.tmp n) v d → PostS X W Z fx Γ' m2 n H1 lab1 E (kk d σD1) → Q v H1) : te σ H Q := by
  refine h _ _ _ ⟨σD, lab, g0, s.s, ?_⟩
  unfold sOf at po
  cases e : g σD with
  | stuck => rw [e] at po; exact po
  | ok d σD1 =>
    rw [e] at po
    intro v H1 lab1 s1 p1 r1
    exact cont d σD1 v H1 lab1 ⟨s1, s.f⟩ p1 r1 (PostS.later po p1 (SubK.left _ _ _) (SubK.right _ _ _))
  | exc c py σD1 =>
    rw [e] at po
    intro H1 lab1 C dd hc s1 p1 pay
    exact po σ H1 lab1 C dd hc ⟨s1, s.f⟩ (p1.mono (SubK.left _ _ _)) pay
def sIf (t : List D → ER Bool) (G1 G2 : List D → SO) : List D → SO := fun σ => match t σ with
  | .stuck => .stuck
  | .ok b σ1 => if b = true then G1 σ1 else G2 σ1
  | .exc c p σ1 => .exc c p σ1
theorem sj_if {c : Expr} {a b : List Stmt} {pos : Pos} {t : List D → ER Bool} {G1 G2 : List D → SO} {m3 : List Nat} (hc : TJ X W Z.Γx Γ n m1 c t) (ha : BJ X W Z Γ Γ' n m2 a G1) (hb : BJ X W Z Γ Γ' n m3 b G2) : SJ X W Z Γ Γ' n (m1 ++ (m2 ++ m3)) (.If c a b pos) (sIf t G1 G2) := by
  refine ps_imp (ps_if hc ha hb) fun E σ H h => ?_
  obtain ⟨σD, lab, fx, g0, s, po⟩ := h
  refine ⟨σD, lab, g0, s.s, ?_⟩
  unfold sIf at po
  cases e : t σD with
  | stuck => rw [e] at po; exact po
  | ok d σD1 =>
    rw [e] at po
    intro v H1 lab1 s1 p1 r1
    have r1 : v = d := r1
    subst r1
    have po2 := PostS.later po p1 (SubK.left _ _ _) (SubK.right _ _ _)
    cases v with
    | true => exact ⟨σD1, lab1, fx, g0, ⟨s1, s.f⟩, po2.mono (SubK.left _ _ _) (Nat.le_refl _)⟩
    | false => exact ⟨σD1, lab1, fx, g0, ⟨s1, s.f⟩, po2.mono (SubK.right _ _ _) (Nat.le_refl _)⟩
  | exc cn py σD1 =>
    rw [e] at po
    intro H1 lab1 C dd hcn s1 p1 pay
    exact po σ H1 lab1 C dd hcn ⟨s1, s.f⟩ (p1.mono (SubK.left _ _ _)) pay
def sRet (g : List D → ER D) : List D → SO := sOf g fun d σ => .ret d σ
/-- the labels at a return: what is no one's any more -/
def labRet (io : List Nat) (lab : Labs) : Labs := fun a => match lab a with
  | .slt i => if io.contains i then .slt i else .fro
  | .tmp _ => .fro
  | l => l
theorem PresW.ret {io : List Nat} {H : Hp} {lab : Labs} : PresW H lab H (labRet io lab) := ⟨fun a _ h1 h2 => ⟨rfl, by
    unfold labRet
    split
    · rename_i i e; exact absurd e (h2 i)
    · rename_i j e; rw [e] at h1; simp [keepL] at h1
    · rfl⟩, TK.refl H, fun _ q => q, fun a q o => ⟨q, by
    unfold labRet at o ⊢
    split
    · rename_i i e
      rw [e] at o
      dsimp only at o
      split at o <;> cases o
    · rename_i j e
      rw [e] at o; cases o
    · rfl⟩⟩
/-- at a return only the parameters changed in place are asked -/
def retC (Γr : Ctx) (io : List Nat) : Bool := (List.range Γr.length).all fun i => match Γr[i]? with
  | some (some .own) => io.contains i
  | some (some _) => false
  | _ => true
theorem retC.at_ {Γr : Ctx} {io : List Nat} (h : retC Γr io = true) {i : Nat} {k : Kd} (e : Γr[i]? = some (some k)) : k = .own ∧ io.contains i = true := by
  have := List.all_eq_true.mp h i (List.mem_range.mpr (List.getElem?_eq_some_iff.mp e).1)
  rw [e] at this
  cases k with
  | own => exact ⟨rfl, this⟩
  | _ => cases this
theorem SR.ret {σ : St} {σD : List D} {io : List Nat} (s : SR X Γ σ H lab σD) (h : retC Γ io = true) : SR X Γ σ H (labRet io lab) σD := ⟨s.l1, s.l2, fun i k e => by
  obtain ⟨rfl, hi⟩ := retC.at_ h e
  obtain ⟨v, d, a, b, fp, r, nd, l⟩ := s.at_ i _ e
  refine ⟨v, d, a, b, fp, r, nd, fun x hx => ?_⟩
  unfold labRet
  rw [l x hx]
  dsimp only
  rw [if_pos hi]⟩
theorem sj_ret {e : Expr} {pos : Pos} {g : List D → ER D} (h : EJ X W Z.Γx Γ n m e g .own) (ho : Z.own = true := by rfl) (l : leC Γ Z.Γr = true := by decide) : SJ X W Z Γ Γ' n m (.Return (some e) pos) (sRet g) := by
  refine ps_imp (ps_ret h) fun E σ H hh => ?_
  obtain ⟨σD, lab, fx, g0, s, po⟩ := hh
  refine sof_imp (m2 := []) (fun _ _ _ q => q) g0 s (by rw [List.append_nil]; exact po) fun d σD1 v H1 lab1 s1 p1 r1 po1 => ?_
  exact po1 v σ H1 lab1 n ⟨s1.s.weak l, s1.f⟩ (Pres.refl [] 0 _ _).w (by rw [ho]; exact r1)
/-- return x, x a slot of one's own -/
def sRetV (i : Nat) : List D → SO := fun σ => .ret (σ.getD i .non) σ
theorem sj_retV {i : Nat} {x : Str} {pos pos' : Pos} (h : PE X (.Name x pos') (tVar i)) (hΓ : Γ[i]? = some (some .own)) (ho : Z.own = true := by rfl) (hi : Z.io.contains i = false := by decide) (l : leC Γ Z.Γr = true := by decide) (hr : retC Z.Γr Z.io = true := by decide) : SJ X W Z Γ Γ' n [] (.Return (some (.Name x pos')) pos) (sRetV i) := by
  refine ps_imp (ps_ret h) fun E σ H hh => ?_
  obtain ⟨σD, lab, fx, g0, s, po⟩ := hh
  obtain ⟨v, hv, fp, r, nd, lb⟩ := s.s.get hΓ
  let lab2 : Labs := fun a => if lab a = .slt i then .tmp 0 else lab a
  have P : PresW H lab H lab2 := ⟨fun a _ h1 h2 => ⟨rfl, if_neg (h2 i)⟩, TK.refl H, fun _ q => q, fun a q o => ⟨q, by
    show lab a = if lab a = .slt i then _ else _
    by_cases z : lab a = .slt i
    · have : lab2 a = .tmp 0 := if_pos z
      rw [this] at o; cases o
    · rw [if_neg z]⟩⟩
  refine ⟨v, hv, po v σ H lab2 0 ⟨⟨s.s.l1, s.s.l2, fun q k e => ?_⟩, s.f⟩ P ?_⟩
  · obtain ⟨rfl, hq⟩ := retC.at_ hr e
    obtain ⟨w, d, a, b, fp', r', nd', l'⟩ := (s.s.weak l).at_ q _ e
    refine ⟨w, d, a, b, fp', r', nd', fun x hx => ?_⟩
    show (if lab x = .slt i then _ else _) = _
    rw [if_neg, l' x hx]
    rw [l' x hx]
    intro z
    cases z
    rw [hq] at hi; cases hi
  · rw [ho]
    exact ⟨fp, r, nd, fun a ha => if_pos (lb a ha)⟩
def sRetN : List D → SO := fun σ => .ret .non σ
def dropL (i : Nat) (R : List Lab) : List Lab := R.filter fun l => decide (l ≠ .slt i)
def dropK (i : Nat) : Kd → Kd
  | .own => .own
  | .bor R => .bor (dropL i R)
  | .spn R => .spn (dropL i R)
  | .exc R => .exc (dropL i R)
/-- the slots behind «slot i holds a k» -/
def putC (Γ : Ctx) (i : Nat) (k : Kd) : Ctx := (Γ.map fun o => o.map (dropK i)).set i (some (dropK i k))
def labPut (i n : Nat) (lab : Labs) : Labs := fun a => if lab a = .slt i then .fro else if lab a = .tmp n then .slt i else lab a
theorem bw_put {i n : Nat} {R : List Lab} {l : Lab} (b : bw R l) (h : R.all (keepL [] n) = true) : bw (dropL i R) (if l = .slt i then .fro else if l = .tmp n then .slt i else l) := by
  rcases b with e | b
  · subst e; exact .inl rfl
  · by_cases e : l = .slt i
    · rw [if_pos e]; exact .inl rfl
    · rw [if_neg e]
      have z := List.all_eq_true.mp h l b
      rw [if_neg (by rintro rfl; simp [keepL] at z)]
      exact .inr (List.mem_filter.mpr ⟨b, decide_eq_true e⟩)
theorem VR.put_other {K : PySem.W.Frag} {cl : CE} {i j n : Nat} {k : Kd} {v : V} {d : D} (h : VR K cl H lab k (.slt j) v d) (ne : j ≠ i) (ok : okK [] n k = true) : VR K cl H (labPut i n lab) (dropK i k) (.slt j) v d := by
  have lj : ∀ {a : Addr}, lab a = .slt j → labPut i n lab a = .slt j := fun {a} e => by
    unfold labPut
    rw [e, if_neg (by intro z; cases z; exact ne rfl), if_neg (by intro z; cases z)]
  cases k with
  | own =>
    obtain ⟨fp, r, nd, l⟩ := h
    exact ⟨fp, r, nd, fun a ha => lj (l a ha)⟩
  | bor R =>
    obtain ⟨fp, r, l⟩ := h
    exact ⟨fp, r, fun a ha => bw_put (l a ha) ok⟩
  | spn R =>
    obtain ⟨p, vs, ds, fp, e1, e2, hp, r, lp, l⟩ := h
    exact ⟨p, vs, ds, fp, e1, e2, hp, r, lj lp, fun b hb => ⟨(l b hb).1, bw_put (l b hb).2 ok⟩⟩
  | exc R =>
    obtain ⟨fp, r, l, u⟩ := h
    refine ⟨fp, r, fun a ha => bw_put (l a ha) ok, fun z => ?_⟩
    obtain ⟨u1, u2, u3⟩ := u (List.mem_filter.mp z).1
    exact ⟨List.mem_filter.mpr ⟨u1, decide_eq_true (fun e => ne (Lab.slt.inj e))⟩, u2, fun a ha => lj (u3 a ha)⟩
theorem VR.put_self {K : PySem.W.Frag} {cl : CE} {i n : Nat} {k : Kd} {v : V} {d : D} (h : VR K cl H lab k (.tmp n) v d) (ok : okK [] n k = true) : VR K cl H (labPut i n lab) (dropK i k) (.slt i) v d := by
  have lj : ∀ {a : Addr}, lab a = .tmp n → labPut i n lab a = .slt i := fun {a} e => by
    unfold labPut
    rw [e, if_neg (by intro z; cases z), if_pos rfl]
  cases k with
  | own =>
    obtain ⟨fp, r, nd, l⟩ := h
    exact ⟨fp, r, nd, fun a ha => lj (l a ha)⟩
  | bor R =>
    obtain ⟨fp, r, l⟩ := h
    exact ⟨fp, r, fun a ha => bw_put (l a ha) ok⟩
  | spn R =>
    obtain ⟨p, vs, ds, fp, e1, e2, hp, r, lp, l⟩ := h
    exact ⟨p, vs, ds, fp, e1, e2, hp, r, lj lp, fun b hb => ⟨(l b hb).1, bw_put (l b hb).2 ok⟩⟩
  | exc R =>
    obtain ⟨fp, r, l, u⟩ := h
    refine ⟨fp, r, fun a ha => bw_put (l a ha) ok, fun z => ?_⟩
    have := List.all_eq_true.mp ok _ (u (List.mem_filter.mp z).1).1
    simp [keepL] at this
theorem Pres.put {i n : Nat} : Pres [i] n H lab H (labPut i n lab) := .relab (fun a h => by
    unfold labPut
    rw [if_neg (by intro e; rw [e] at h; simp [keepL] at h), if_neg (by intro e; rw [e] at h; simp [keepL] at h)]) fun a h => by
    unfold labPut at h ⊢
    split at h
    · cases h
    · rename_i h1
      split at h
      · cases h
      · rename_i h2
        rw [if_neg h1, if_neg h2]
theorem SR.put {σ : St} {σD : List D} {i : Nat} {k : Kd} {v : V} {d : D} (s : SR X Γ σ H lab σD) (g : gok Γ n = true) (hi : i < X.N.length) (h : VR X.K (clX X) H lab k (.tmp n) v d) (ok : okK [] n k = true) : SR X (putC Γ i k) (σ.set i (some v)) H (labPut i n lab) (σD.set i d) := by
  refine ⟨by rw [List.length_set]; exact s.l1, by rw [List.length_set]; exact s.l2, fun j k' e => ?_⟩
  by_cases ne : j = i
  · subst ne
    unfold putC at e
    have hl : j < (Γ.map fun o => o.map (dropK j)).length := by
      have := (List.getElem?_eq_some_iff.mp e).1
      rwa [List.length_set] at this
    rw [List.getElem?_set_self hl] at e
    cases e
    exact ⟨v, d, List.getElem?_set_self (by rw [s.l1]; exact hi), List.getElem?_set_self (by rw [s.l2]; exact hi), h.put_self ok⟩
  · unfold putC at e
    rw [List.getElem?_set_ne (Ne.symm ne), List.getElem?_map] at e
    cases e2 : Γ[j]? with
    | none => rw [e2] at e; cases e
    | some o =>
      rw [e2] at e
      cases o with
      | none => cases e
      | some k0 =>
        cases e
        obtain ⟨w, d', a, b, c⟩ := s.at_ j k0 e2
        exact ⟨w, d', by rw [List.getElem?_set_ne (Ne.symm ne)]; exact a, by rw [List.getElem?_set_ne (Ne.symm ne)]; exact b, c.put_other ne (gok.at_ g e2)⟩
def sSet (i : Nat) (g : List D → ER D) : List D → SO := sOf g fun d σ => .nxt (σ.set i d)
theorem sj_set {i : Nat} {x : Str} {e : Expr} {pos pos' : Pos} {g : List D → ER D} {k : Kd} (hN : X.N.Nodup) (hi : X.N[i]? = some x) (h : EJ X W Z.Γx Γ n m e g k) (hx : Loc X.env.scope x := by first | exact Or.inl rfl | exact Or.inr rfl) (ok : okK [] n k = true := by decide) (hio : Z.io.contains i = false := by decide)
    (hs : swapsWith e (some (.Name x pos')) pos.line X.env = pure false := by rfl) (hf : X.fn x = true ∨ X.env.scope.names.lookup x = some .local := by first | exact .inl rfl | exact .inr rfl) : SJ X W Z Γ (putC Γ i k) n (m ++ [i]) (.Assign [.Name x pos'] e pos) (sSet i g) := by
  refine ps_imp (ps_set hN hi hx h hs hf) fun E σ H hh => ?_
  obtain ⟨σD, lab, fx, g0, s, po⟩ := hh
  refine sof_imp (fun _ _ _ q => q) g0 s po fun d σD1 v H1 lab1 s1 p1 r1 po1 => ?_
  have hlt : i < X.N.length := (List.getElem?_eq_some_iff.mp hi).1
  refine po1 (σ.set i (some v)) H1 (labPut i n lab1) ⟨s1.s.put g0 hlt r1 ok, fun j hj => ?_⟩ .put
  rw [List.getElem?_set_ne]
  · exact s1.f j hj
  · rintro rfl
    have : Z.io.contains i = true := by simpa using hj
    rw [this] at hio; cases hio
end
end Ow


namespace Ow
open PySem PySem.Spec PyProof.Rows L2
def fnD (nl : Nat) (io : List Nat) (G : List D → SO) : List D → FR := fun ds => match G (ds ++ List.replicate (nl - ds.length) .non) with
  | .nxt σ => .ret .non (io.map fun i => σ.getD i .non)
  | .ret d σ => .ret d (io.map fun i => σ.getD i .non)
  | .exc c p σ => .exc c p (io.map fun i => σ.getD i .non)
  | _ => .stuck
def ctx0 (np nl : Nat) (io xs : List Nat) : Ctx := (List.range nl).map fun i => if i < np then some (parK io xs i) else none
def ctxIo (nl : Nat) (io : List Nat) : Ctx := (List.range nl).map fun i => if io.contains i then some .own else none
abbrev scOf (nl : Nat) (io : List Nat) (own : Bool) : SC := ⟨ctxIo nl io, ctxIo nl io, [], own, io⟩
abbrev wOf (E : XK) : WX := fun cls d _ H => E cls d H
theorem ctx0_at {np nl : Nat} {io xs : List Nat} {i : Nat} {k : Kd} (h : (ctx0 np nl io xs)[i]? = some (some k)) : i < np ∧ k = parK io xs i := by
  unfold ctx0 at h
  rw [List.getElem?_map] at h
  cases e : (List.range nl)[i]? with
  | none => rw [e] at h; cases h
  | some j =>
    have : j = i := by
      obtain ⟨h1, h2⟩ := List.getElem?_eq_some_iff.mp e
      simpa using h2.symm
    subst this
    rw [e] at h
    simp only [Option.map_some, Option.some.injEq] at h
    split at h
    · rename_i q
      exact ⟨q, (Option.some.inj h).symm⟩
    · cases h
theorem ctxIo_at {nl : Nat} {io : List Nat} {i : Nat} (h : i < nl) (hi : i ∈ io) : (ctxIo nl io)[i]? = some (some .own) := by
  unfold ctxIo
  rw [List.getElem?_map, List.getElem?_range h]
  simp [hi]
theorem presIo {io : List Nat} {H H' : Hp} {lab lab' : Labs} (p : PresW H lab H' lab') (hl : ∀ a, H a ≠ none → lab a = .out ∨ lab a = .prm ∨ ∃ i ∈ io, lab a = .slt i) : Pres io 0 H lab H' lab' :=
  ⟨fun a ha hk => by
    rcases hl a ha with e | e | ⟨i, hi, e⟩
    · exact p.keep a ha (by rw [e]; rfl) (by rw [e]; intro i z; cases z)
    · exact p.keep a ha (by rw [e]; rfl) (by rw [e]; intro i z; cases z)
    · rw [e] at hk; simp [keepL, hi] at hk, p.tk, p.there, p.old⟩
theorem outs_of {X : Cx} {io : List Nat} {fx : Nat → V} {nl : Nat} {σ : St} {H : Hp} {lab : Labs} {σD : List D} {vs : List V} (s : SRx X io fx (ctxIo nl io) σ H lab σD) (hf : ∀ i ∈ io, vs[i]? = some (fx i)) (hn : ∀ i ∈ io, i < nl) : outsR X.K (clX X) io vs H lab (io.map fun i => σD.getD i .non) := by
  intro q i hq
  have hi : i ∈ io := List.mem_of_getElem? hq
  obtain ⟨v, hv, r⟩ := s.s.get (ctxIo_at (hn i hi) hi)
  have e := s.f i hi
  rw [hv] at e
  cases e
  exact ⟨fx i, _, hf i hi, by rw [List.getElem?_map, hq]; rfl, r⟩
theorem pay_of {X : Cx} {H : Hp} {lab : Labs} {n : Nat} {c : Str} {p : D} {dd : Option Addr} (h : PayOk X H lab n c p dd) : PayM X.K (clX X) H lab c p dd := by
  unfold PayOk at h
  unfold PayM
  split at h
  · rename_i e; first | (rw [e]; exact h) | exact h
  · rename_i f e
    try rw [e]
    obtain ⟨d, v, j, h1, h2, hl, h3, h4⟩ := h
    exact ⟨d, v, j, h1, h2, hl, h4⟩
theorem okD_read {X : Cx} {ce : CE} {np nl : Nat} {io xs m : List Nat} {own : Bool} {G : List D → SO} {Γ' : Ctx} (q : CEq (clX X) ce) (hnl : X.N.length = nl) (hio : io.all (fun i => decide (i < np)) = true) (hpn : np ≤ nl) (hl : leC Γ' (ctxIo nl io) = true)
    {vs : List V} {H : Hp} {Q : VK} {E : XK} (h : spD X.K ce np io xs own (fnD nl io G) vs H Q E) : rdS X (wOf E) (scOf nl io own) (ctx0 np nl io xs) Γ' 0 m G { nx := fun _ H' => Q .non H', rt := Q } (L2.start X.N vs) H := by
  obtain ⟨ds, lab, h1, h2, h3, h4, h5⟩ := h
  have hlt : ∀ i ∈ io, i < np := fun i hi => of_decide_eq_true (List.all_eq_true.mp hio i hi)
  let fx : Nat → V := fun i => vs.getD i .non
  have hfx : ∀ i ∈ io, vs[i]? = some (fx i) := fun i hi => by
    show vs[i]? = some (vs.getD i .non)
    rw [List.getD_eq_getElem?_getD, List.getElem?_eq_getElem (by rw [h1]; exact hlt i hi)]
    rfl
  have hst : ∀ (i : Nat) v, vs[i]? = some v → (L2.start X.N vs)[i]? = some (some v) := fun i v e => by
    unfold L2.start
    have := (List.getElem?_eq_some_iff.mp e).1
    rw [List.getElem?_append_left (by simpa using this), List.getElem?_map, e]
    rfl
  have lN : (L2.start X.N vs).length = X.N.length := by
    unfold L2.start
    rw [List.length_append, List.length_map, List.length_replicate]
    omega
  refine ⟨ds ++ List.replicate (nl - ds.length) .non, lab, fx, ?_, ⟨⟨lN, ?_, fun i k e => ?_⟩, fun i hi => hst i _ (hfx i hi)⟩, ?_⟩
  · refine List.all_eq_true.mpr fun o ho => ?_
    obtain ⟨i, hi⟩ := List.mem_iff_getElem?.mp ho
    cases o with
    | none => rfl
    | some k =>
      obtain ⟨_, e⟩ := ctx0_at hi
      show okK [] 0 k = true
      rw [e]
      unfold parK
      split
      · rfl
      · split <;> rfl
  · rw [List.length_append, List.length_replicate]
    omega
  · obtain ⟨hi, rfl⟩ := ctx0_at e
    have e1 : vs[i]? = some (vs[i]'(by omega)) := List.getElem?_eq_getElem _
    have e2 : ds[i]? = some (ds[i]'(by omega)) := List.getElem?_eq_getElem _
    exact ⟨_, _, hst i _ e1, by rw [List.getElem?_append_left (by omega)]; exact e2, (h3 i _ _ e1 e2).ce q.c2 q.e2⟩
  · unfold fnD at h5
    have hn : ∀ i ∈ io, i < nl := fun i hi => Nat.lt_of_lt_of_le (hlt i hi) hpn
    cases e : G (ds ++ List.replicate (nl - ds.length) .non) with
    | stuck => rw [e] at h5; exact h5
    | brk σ => rw [e] at h5; exact h5.elim
    | cnt σ => rw [e] at h5; exact h5.elim
    | nxt σ =>
      rw [e] at h5
      intro σ' H' lab' s' p
      refine h5 .non H' lab' 0 (presIo p.w h4) ((outs_of ⟨s'.s.weak hl, s'.f⟩ hfx hn).ce q) ?_
      cases own with
      | true => exact SV.non.vr
      | false => exact ⟨[], .non, by simp⟩
    | ret d σ =>
      rw [e] at h5
      intro v σ' H' lab' j s' p r
      exact h5 v H' lab' j (presIo p h4) ((outs_of s' hfx hn).ce q) (r.ce q.c1 q.e1)
    | exc c py σ =>
      rw [e] at h5
      intro σ' H' lab' C dd hc s' p pay
      exact h5 H' lab' C dd (q.c1 _ _ hc) (presIo p.w h4) ((outs_of s' hfx hn).ce q) ((pay_of pay).ce q)
section
variable {P : Program} {w : World} {K : PySem.W.Frag} {mg : Str → Option Value} {base : Heap}
end
def whileN (t : List D → ER Bool) (G : List D → SO) : Nat → List D → SO
  | 0, _ => .stuck
  | k + 1, σ => match t σ with
    | .stuck => .stuck
    | .exc c p σ1 => .exc c p σ1
    | .ok b σ1 => if b = true then (match G σ1 with
      | .nxt σ2 => whileN t G k σ2
      | .cnt σ2 => whileN t G k σ2
      | .brk σ2 => .nxt σ2
      | r => r) else .nxt σ1
theorem whileN_mono (t : List D → ER Bool) (G : List D → SO) : ∀ (k : Nat) (σ : List D), whileN t G k σ ≠ .stuck → ∀ j, k ≤ j → whileN t G j σ = whileN t G k σ
  | 0, σ, h, _, _ => absurd rfl h
  | k + 1, σ, h, 0, hj => absurd hj (by omega)
  | k + 1, σ, h, j + 1, hj => by
    rw [whileN] at h ⊢
    rw [whileN]
    cases e : t σ with
    | stuck => rfl
    | exc c p σ1 => rfl
    | ok b σ1 =>
      rw [e] at h
      dsimp only at h ⊢
      cases b with
      | false => rfl
      | true =>
        simp only [if_true] at h ⊢
        cases e2 : G σ1 with
        | nxt σ2 => rw [e2] at h; exact whileN_mono t G k σ2 h j (by omega)
        | cnt σ2 => rw [e2] at h; exact whileN_mono t G k σ2 h j (by omega)
        | _ => rfl
open Classical in
noncomputable def sWhile (t : List D → ER Bool) (G : List D → SO) : List D → SO := fun σ => if h : ∃ k, whileN t G k σ ≠ .stuck then whileN t G h.choose σ else .stuck
theorem sWhile_eq {t : List D → ER Bool} {G : List D → SO} {k : Nat} {σ : List D} (h : whileN t G k σ ≠ .stuck) : sWhile t G σ = whileN t G k σ := by
  unfold sWhile
  rw [dif_pos ⟨k, h⟩]
  have hs := (⟨k, h⟩ : ∃ k, whileN t G k σ ≠ .stuck).choose_spec
  rcases Nat.le_total k (⟨k, h⟩ : ∃ k, whileN t G k σ ≠ .stuck).choose with q | q
  · exact whileN_mono t G k σ h _ q
  · exact (whileN_mono t G _ σ hs _ q).symm
section
variable {X : Cx} {W : WX} {Z : SC} {fx : Nat → V} {Γ Γ' Γ1 Γ2 : Ctx} {n n1 : Nat} {m m1 m2 : List Nat} {H H1 : Hp} {lab lab1 : Labs} {E : Ends} {r : SO} {pos : Pos}
theorem sj_while {c : Expr} {body : List Stmt} {t : List D → ER Bool} {G : List D → SO} (hp : PassesOwn (model X.prog X.w) X.A X.env X.xe) (hc : TJ X W Z.Γx Γ n m1 c t) (hb : BJ X W { Z with Γb := Γ } Γ Γ n m2 body G) : SJ X W Z Γ Γ n (m1 ++ m2) (.While c body [] pos) (sWhile t G) := by
  refine ps_imp (ps_while hp hc hb) fun E σ H h => ?_
  obtain ⟨σD, lab, fx, g0, s, po⟩ := h
  have hk : ∃ k, PostS X W Z fx Γ (m1 ++ m2) n H lab E (whileN t G k σD) := by
    unfold sWhile at po
    split at po
    · exact ⟨_, po⟩
    · exact po.elim
  obtain ⟨k, po⟩ := hk
  refine ⟨fun k σ H => ∃ σD lab, SRx X Z.io fx Γ σ H lab σD ∧ PostS X W Z fx Γ (m1 ++ m2) n H lab E (whileN t G k σD), ⟨k, σD, lab, s, po⟩, ?_⟩
  rintro k σ H ⟨σD, lab, s, po⟩
  cases k with
  | zero => exact po.elim
  | succ k =>
    rw [whileN] at po
    refine ⟨σD, lab, g0, s.s, ?_⟩
    cases e : t σD with
    | stuck => rw [e] at po; exact po
    | exc cn py σ1 =>
      rw [e] at po
      intro H1 lab1 C dd hcn s1 p1 pay
      exact po σ H1 lab1 C dd hcn ⟨s1, s.f⟩ (p1.mono (SubK.left _ _ _)) pay
    | ok b σ1 =>
      rw [e] at po
      intro v H1 lab1 s1 p1 r1
      have r1 : v = b := r1
      subst r1
      have po1 := PostS.later po p1 (SubK.left _ _ _) (SubK.refl _ _)
      have s1' : SRx X Z.io fx Γ σ H1 lab1 σ1 := ⟨s1, s.f⟩
      cases v with
      | false => exact po1 σ H1 lab1 s1' (.refl _ _ _ _)
      | true =>
        simp only [if_true] at po1 ⊢
        refine ⟨fun σ H => ∃ σD lab, SRx X Z.io fx Γ σ H lab σD ∧ PostS X W Z fx Γ (m1 ++ m2) n H lab E (whileN t G k σD), fun σ' H' q => ⟨k, Nat.lt_succ_self k, q⟩, σ1, lab1, fx, g0, s1', ?_⟩
        cases e2 : G σ1 with
        | stuck => rw [e2] at po1; exact po1
        | nxt σ2 => rw [e2] at po1; exact fun σ' H' lab' s' p' => ⟨σ2, lab', s', PostS.later po1 p' (SubK.right _ _ _) (SubK.refl _ _)⟩
        | cnt σ2 => rw [e2] at po1; exact fun σ' H' lab' s' p' => ⟨σ2, lab', s', PostS.later po1 p' (SubK.right _ _ _) (SubK.refl _ _)⟩
        | brk σ2 => rw [e2] at po1; exact fun σ' H' lab' s' p' => po1 σ' H' lab' s' (p'.mono (SubK.right _ _ _))
        | ret d σ2 => rw [e2] at po1; exact po1
        | exc cn py σ2 => rw [e2] at po1; exact fun σ' H' lab' C dd hcn s' p' pay => po1 σ' H' lab' C dd hcn s' (p'.mono (SubK.right _ _ _)) pay
def sBrk : List D → SO := fun σ => .brk σ
def sCnt : List D → SO := fun σ => .cnt σ
def sPar (i j : Nat) (gs : List D → ER (List D)) : List D → SO := fun σ => match gs σ with
  | .stuck => .stuck
  | .exc c p σ1 => .exc c p σ1
  | .ok [x, y] σ1 => .nxt ((σ1.set i x).set j y)
  | .ok _ _ => .stuck
theorem sj_par {i j : Nat} {x y : Str} {a b : Expr} {px py pt : Pos} {kt k2 pt2} {k1 k3 : Kd} {gs : List D → ER (List D)} (hc : X.calm = true) (hN : X.N.Nodup) (hi : X.N[i]? = some x) (hj : X.N[j]? = some y) (ha : AJ X W Z.Γx Γ n m [a, b] gs [.val k1, .val k3])
    (hw : swappedStores [.Tuple [.Name x px, .Name y py] kt pt] (.Tuple [a, b] k2 pt2) X.env = pure (some [x, y]) := by rfl) (hx : X.env.scope.names.lookup x = some .local := by rfl) (hy : X.env.scope.names.lookup y = some .local := by rfl) (hij : i ≠ j := by decide)
    (o1 : okK [] n k1 = true := by decide) (o2 : okK [] (n + 1) (dropK i k3) = true := by decide) (o3 : okK [] n k3 = true := by decide) (hio : (Z.io.contains i || Z.io.contains j) = false := by decide)
    (hs : swapsWithSole [.Tuple [.Name x px, .Name y py] kt pt] (.Tuple [a, b] k2 pt2) pos.line X.env = pure false := by rfl) :
    SJ X W Z Γ (putC (putC Γ i k1) j (dropK i k3)) n (m ++ [i, j]) (.Assign [.Tuple [.Name x px, .Name y py] kt pt] (.Tuple [a, b] k2 pt2) pos) (sPar i j gs) := by
  refine ps_imp (ps_par hc hN hi hj hij hx hy ha hw hs) fun E σ H h => ?_
  obtain ⟨σD, lab, fx, g0, s, po⟩ := h
  refine ⟨σD, lab, g0, s.s, ?_⟩
  unfold sPar at po
  cases e : gs σD with
  | stuck => rw [e] at po; exact po
  | exc cn py' σ1 =>
    rw [e] at po
    intro H1 lab1 C dd hcn s1 p1 pay
    exact po σ H1 lab1 C dd hcn ⟨s1, s.f⟩ (p1.mono (SubK.left _ _ _)) pay
  | ok ds σ1 =>
    rw [e] at po
    intro vs H1 lab1 s1 p1 r1
    obtain ⟨v, vs', d, ds', e1, e2, r, v2, vs2, d2, ds2, e3, e4, r2, e5, e6⟩ := r1
    subst e1 e2 e3 e4 e5 e6
    refine ⟨v, v2, rfl, ?_⟩
    have li : i < X.N.length := (List.getElem?_eq_some_iff.mp hi).1
    have lj : j < X.N.length := (List.getElem?_eq_some_iff.mp hj).1
    have A := s1.put g0 li r o1
    have g1 : gok (putC Γ i k1) (n + 1) = true := by
      refine List.all_eq_true.mpr fun o ho => ?_
      obtain ⟨q, hq⟩ := List.mem_iff_getElem?.mp ho
      have sub : ∀ R : List Lab, R.all (keepL [] n) = true → (dropL i R).all (keepL [] (n + 1)) = true := fun R hR => List.all_eq_true.mpr fun l hl => keepL.up (List.all_eq_true.mp hR l (List.mem_filter.mp hl).1)
      have subK : ∀ k : Kd, okK [] n k = true → okK [] (n + 1) (dropK i k) = true := fun k hk => by
        cases k with
        | own => rfl
        | bor R => exact sub R hk
        | spn R => exact sub R hk
        | exc R => exact sub R hk
      unfold putC at hq
      by_cases z : q = i
      · subst z
        have hl : q < (Γ.map fun o => o.map (dropK q)).length := by
          have := (List.getElem?_eq_some_iff.mp hq).1
          rwa [List.length_set] at this
        rw [List.getElem?_set_self hl] at hq
        cases hq
        exact subK _ o1
      · rw [List.getElem?_set_ne (Ne.symm z), List.getElem?_map] at hq
        cases e2 : Γ[q]? with
        | none => rw [e2] at hq; cases hq
        | some o' =>
          rw [e2] at hq
          cases o' with
          | none => cases hq; rfl
          | some k0 => cases hq; exact subK _ (gok.at_ g0 e2)
    -- the second value behind the first store
    have r2' : VR X.K (clX X) H1 (labPut i n lab1) (dropK i k3) (.tmp (n + 1)) v2 d2 := by
      have lt : ∀ {a : Addr}, lab1 a = .tmp (n + 1) → labPut i n lab1 a = .tmp (n + 1) := fun {a} e => by
        unfold labPut
        rw [e, if_neg (by intro z; cases z), if_neg (by intro z; injection z; omega)]
      cases k3 with
      | own =>
        obtain ⟨fp, r, nd, l⟩ := r2
        exact ⟨fp, r, nd, fun a ha => lt (l a ha)⟩
      | bor R =>
        obtain ⟨fp, r, l⟩ := r2
        exact ⟨fp, r, fun a ha => bw_put (l a ha) o3⟩
      | spn R =>
        obtain ⟨p, vs, ds, fp, e1, e2, hp, r, lp, l⟩ := r2
        exact ⟨p, vs, ds, fp, e1, e2, hp, r, lt lp, fun b hb => ⟨(l b hb).1, bw_put (l b hb).2 o3⟩⟩
      | exc R =>
        obtain ⟨fp, r, l, u⟩ := r2
        refine ⟨fp, r, fun a ha => bw_put (l a ha) o3, fun z => ?_⟩
        have := List.all_eq_true.mp o3 _ (u (List.mem_filter.mp z).1).1
        simp [keepL] at this <;> omega
    have B := A.put g1 lj r2' o2
    refine po _ H1 _ ⟨B, fun q hq => ?_⟩ ?_
    · have z1 : q ≠ i := by
        rintro rfl
        have : Z.io.contains q = true := by simpa using hq
        rw [this] at hio; cases hio
      have z2 : q ≠ j := by
        rintro rfl
        have : Z.io.contains q = true := by simpa using hq
        rw [this, Bool.or_true] at hio; cases hio
      rw [List.getElem?_set_ne (Ne.symm z2), List.getElem?_set_ne (Ne.symm z1)]
      exact s.f q hq
    · have P1 : Pres (m ++ [i, j]) n H lab H1 lab1 := p1.mono (SubK.left _ _ _)
      refine P1.trans (m2 := m ++ [i, j]) (n2 := n) ?_ (SubK.refl _ _) (SubK.refl _ _)
      have Q1 : Pres (m ++ [i, j]) n H1 lab1 H1 (labPut i n lab1) := Pres.put.mono (.of (fun q hq => by simp at hq; simp [hq]) (Nat.le_refl _))
      have Q2 : Pres (m ++ [i, j]) n H1 (labPut i n lab1) H1 (labPut j (n + 1) (labPut i n lab1)) := Pres.put.mono (.of (fun q hq => by simp at hq; simp [hq]) (Nat.le_succ _))
      exact Q1.trans Q2 (SubK.refl _ _) (SubK.refl _ _)
end
end Ow


namespace Ow
open PySem PySem.Spec PyProof.Rows L2
/-- no slot but r leans on r -/
def noBor (Γ : Ctx) (r : Nat) : Bool := (List.range Γ.length).all fun i => match Γ[i]? with
  | some (some .own) => true
  | some (some (.bor R)) => decide (i ≠ r) && R.all fun l => decide (l ≠ .slt r)
  | some (some (.spn R)) => decide (i ≠ r) && R.all fun l => decide (l ≠ .slt r)
  | some (some (.exc R)) => decide (i ≠ r) && R.all fun l => decide (l ≠ .slt r)
  | _ => true
theorem noBor.at_ {Γ : Ctx} {r n : Nat} (h : noBor Γ r = true) (g : gok Γ n = true) {i : Nat} {k : Kd} (e : Γ[i]? = some (some k)) (ne : i ≠ r) : okK [r] n k = true ∧ keepL [r] n (.slt i) = true := by
  have := List.all_eq_true.mp h i (List.mem_range.mpr (List.getElem?_eq_some_iff.mp e).1)
  rw [e] at this
  have hg := gok.at_ g e
  have key : ∀ R : List Lab, (R.all fun l => decide (l ≠ .slt r)) = true → R.all (keepL [] n) = true → R.all (keepL [r] n) = true := fun R h1 h2 => List.all_eq_true.mpr fun l hl => by
    have z1 := of_decide_eq_true (List.all_eq_true.mp h1 l hl)
    have z2 := List.all_eq_true.mp h2 l hl
    cases l with
    | slt q =>
      have : q ≠ r := fun z => z1 (by rw [z])
      simp [keepL, this]
    | _ => exact z2
  refine ⟨?_, by simp [keepL, ne]⟩
  cases k with
  | own => rfl
  | bor R => simp only [Bool.and_eq_true] at this; exact key R this.2 hg
  | spn R => simp only [Bool.and_eq_true] at this; exact key R this.2 hg
  | exc R => simp only [Bool.and_eq_true] at this; exact key R this.2 hg
section
variable {X : Cx} {W : WX} {Z : SC} {Γx Γ Γ' : Ctx} {n r : Nat} {m m1 m2 : List Nat} {σ : St} {H : Hp} {lab : Labs} {σD : List D} {pos : Pos}
/-- the object of slot r is changed; f': what it now holds, fz: what came out -/
def labMut (r n : Nat) (f' fz : List Addr) (lab : Labs) : Labs := fun b => if b ∈ fz then .tmp n else if b ∈ f' then .slt r else lab b
theorem SR.mut {a : Addr} {u o : HO} {f' fz : List Addr} {d' : D} (s : SR X Γ σ H lab σD) (g : gok Γ n = true) (hb : noBor Γ r = true) (hΓ : Γ[r]? = some (some .own)) (hσ : σ[r]? = some (some (.ref a))) (ha : H a = some u) (mu : isMut u)
    (rp : Rp X.K (clX X) (upd H a o) (.ref a) d' f') (nd : (f' ++ fz).Nodup) (hl : ∀ b ∈ a :: (f' ++ fz), lab b = .slt r ∨ ∃ j, n ≤ j ∧ lab b = .tmp j) :
    SR X Γ σ (upd H a o) (labMut r n f' fz lab) (σD.set r d') ∧ Pres [r] n H lab (upd H a o) (labMut r n f' fz lab) := by
  have nk : ∀ b ∈ a :: (f' ++ fz), keepL [r] n (lab b) = false := fun b hb => by
    rcases hl b hb with e | ⟨j, hj, e⟩
    · rw [e]; simp [keepL]
    · rw [e]; simp [keepL]; omega
  have P1 : Pres [r] n H lab (upd H a o) lab := .mut ha mu (nk a List.mem_cons_self)
  have P2 : Pres [r] n (upd H a o) lab (upd H a o) (labMut r n f' fz lab) := .relab (fun b hk => by
    unfold labMut
    rw [if_neg (fun z => by rw [nk b (List.mem_cons_of_mem _ (List.mem_append_right _ z))] at hk; exact Bool.noConfusion hk), if_neg (fun z => by rw [nk b (List.mem_cons_of_mem _ (List.mem_append_left _ z))] at hk; exact Bool.noConfusion hk)]) fun b ho => by
    unfold labMut at ho ⊢
    split at ho
    · cases ho
    · rename_i h1
      split at ho
      · cases ho
      · rename_i h2
        rw [if_neg h1, if_neg h2]
  have P := P1.trans P2 (SubK.refl _ _) (SubK.refl _ _)
  refine ⟨⟨s.l1, by rw [List.length_set]; exact s.l2, fun i k e => ?_⟩, P⟩
  obtain ⟨v, d, h1, h2, h3⟩ := s.at_ i k e
  by_cases ne : i = r
  · subst ne
    rw [hσ] at h1
    cases h1
    rw [hΓ] at e
    cases e
    refine ⟨.ref a, d', hσ, List.getElem?_set_self (List.getElem?_eq_some_iff.mp h2).1, f', rp, (List.nodup_append.mp nd).1, fun b hb => ?_⟩
    unfold labMut
    rw [if_neg fun z => (List.nodup_append.mp nd).2.2 b hb b z rfl, if_pos hb]
  · obtain ⟨g1, g2⟩ := noBor.at_ hb g e ne
    exact ⟨v, d, h1, by rw [List.getElem?_set_ne (Ne.symm ne)]; exact h2, h3.pres P g1 g2⟩
def dSetIx (c i v : D) : Option D := match c, i with
  | .lst ds, .int j => (ixN ds.length j).map fun q => .lst (ds.set q v)
  | _, _ => none
def sSetIx (r : Nat) (gv gi : List D → ER D) : List D → SO := sOf gv fun v => sOf gi fun i σ => match dSetIx (σ.getD r .non) i v with
  | some c => .nxt (σ.set r c)
  | none => .stuck
theorem RpL.disj {K : PySem.W.Frag} {cl : CE} {vs : List V} {ds : List D} {f : List Addr} (h : RpL K cl H vs ds f) {a : Addr} {o : HO} (ha : a ∉ f) (hm : ∃ u, H a = some u ∧ isMut u) : RpL K cl (upd H a o) vs ds f := by
  obtain ⟨u, hu, mu⟩ := hm
  exact h.ext (TK.mut hu mu) fun b hb => upd_ne fun z => ha (z ▸ hb)
theorem Rp.disj {K : PySem.W.Frag} {cl : CE} {v : V} {d : D} {f : List Addr} (h : Rp K cl H v d f) {a : Addr} {o : HO} (ha : a ∉ f) (hm : ∃ u, H a = some u ∧ isMut u) : Rp K cl (upd H a o) v d f := by
  obtain ⟨u, hu, mu⟩ := hm
  exact h.ext (TK.mut hu mu) fun b hb => upd_ne fun z => ha (z ▸ hb)
/-- a list of one's own -/
theorem VR.own_lst {K : PySem.W.Frag} {cl : CE} {t : Lab} {v : V} {ds : List D} (h : VR K cl H lab .own t v (.lst ds)) :
    (∃ a vs fp, v = .ref a ∧ H a = some (.lst vs) ∧ RpL K cl H vs ds fp ∧ a ∉ fp ∧ fp.Nodup ∧ lab a = t ∧ ∀ b ∈ fp, lab b = t) := by
  obtain ⟨fp, r, nd, l⟩ := h
  cases r with
  | lst h r =>
    rw [List.nodup_cons] at nd
    exact ⟨_, _, _, rfl, h, r, nd.1, nd.2, l _ List.mem_cons_self, fun b hb => l b (List.mem_cons_of_mem _ hb)⟩

theorem ixN_lt {n j : Nat} {i : Int} (h : ixN n i = some j) : j < n := (ixN_seq h).2.1
theorem sj_setix {x : Str} {e ie : Expr} {px tpos : Pos} {gv gi : List D → ER D} {k : Kd} (hx : PE X (.Name x px) (tVar r)) (he : EJ X W Z.Γx Γ n m1 e gv .own) (hi : EJ X W Z.Γx Γ (n + 1) m2 ie gi k) (hr : Γ[r]? = some (some .own) := by rfl) (hb : noBor Γ r = true := by decide)
    (ha : ∀ v, assign (.Subscript (.Name x px) ie tpos) X.env v = (do
      let ov ← holding [v] (eval (.Name x px) X.env)
      let iv ← holding [v, ov] (eval ie X.env)
      standAt tpos
      holding [v, ov, iv] (setItem ov iv v)
      release [v, ov, iv] []) := by intro _; rfl)
    (hs : swapsWithSole [.Subscript (.Name x px) ie tpos] e pos.line X.env = pure false := by rfl) (hw : swappedStores [.Subscript (.Name x px) ie tpos] e X.env = pure none := by rfl)
    (h1 : (assignEach [.Subscript (.Name x px) ie tpos] X.env).map (·.2) = [assign (.Subscript (.Name x px) ie tpos) X.env] := by rfl) :
    SJ X W Z Γ Γ n (m1 ++ (m2 ++ [r])) (.Assign [.Subscript (.Name x px) ie tpos] e pos) (sSetIx r gv gi) := by
  refine ps_imp (ps_asg he (pg_sub hx hi set_list ha) hs hw h1) fun E σ H hh => ?_
  obtain ⟨σD, lab, fx, g0, s, po⟩ := hh
  refine sof_imp (fun _ _ _ q => q) g0 s po fun d σD1 v H1 lab1 s1 p1 r1 po1 => ?_
  obtain ⟨vr, hvr, _⟩ := s1.s.get hr
  refine ⟨vr, hvr, ?_⟩
  -- the index, at n + 1
  have po1' := po1.mono (m1 := m2 ++ [r]) (n1 := n) (SubK.refl _ _) (Nat.le_refl _)
  unfold sOf at po1'
  refine ⟨σD1, lab1, gok.up g0, s1.s, ?_⟩
  cases e2 : gi σD1 with
  | stuck => rw [e2] at po1'; exact po1'
  | exc cn py σD2 =>
    rw [e2] at po1'
    intro H2 lab2 C dd hc s2 p2 pay
    exact po1' σ H2 lab2 C dd hc ⟨s2, s1.f⟩ (p2.mono ((SubK.left _ _ _).trans (SubK.up _ _))) (pay.mono (Nat.le_succ _))
  | ok di σD2 =>
    rw [e2] at po1'
    intro iv H2 lab2 s2 p2 r2
    have po2 := PostS.later po1' p2 ((SubK.left _ _ _).trans (SubK.up _ _)) (SubK.right _ _ _)
    dsimp only at po2
    have r1 := VR.pres p2 r1 rfl (by simp [keepL])
    obtain ⟨vr', hvr', r3⟩ := s2.get hr
    rw [hvr] at hvr'
    cases hvr'
    cases es : dSetIx (σD2.getD r .non) di d with
    | none => rw [es] at po2; exact po2.elim
    | some c =>
      rw [es] at po2
      cases ec : σD2.getD r .non with
      | lst ds =>
        rw [ec] at es r3
        cases di with
        | int j =>
          simp only [dSetIx, Option.map_eq_some_iff] at es
          obtain ⟨q, hq, rfl⟩ := es
          have ei := r2.int
          subst ei
          obtain ⟨a, vs, fp, rfl, hH, rl, na, nd, la, lf⟩ := r3.own_lst
          obtain ⟨fv, rv, ndv, lv⟩ := r1
          have dj : ∀ b ∈ fv, b ∉ fp := fun b hb z => by
            have := lf b z
            rw [lv b hb] at this
            cases this
          have nav : a ∉ fv := fun z => by
            have := lv a z
            rw [la] at this; cases this
          obtain ⟨f', ra, fb, fn⟩ := rl.set q rv nd ndv dj
          have na' : a ∉ f' := fun z => (fb a z).elim na nav
          refine ⟨a, vs, j, q, rfl, rfl, hH, by rw [rl.len]; exact hq, ?_⟩
          obtain ⟨s3, p3⟩ := s2.mut (fz := []) (f' := a :: f') (d' := .lst (ds.set q d)) (o := .lst (vs.set q v)) g0 hb hr hvr hH True.intro (.lst upd_same (ra.disj na' ⟨_, hH, True.intro⟩)) (by rw [List.append_nil]; exact List.nodup_cons.mpr ⟨na', fn⟩) (fun b hb' => by
            simp only [List.append_nil, List.mem_cons] at hb'
            rcases hb' with e | e | e
            · exact .inl (by rw [e]; exact la)
            · exact .inl (by rw [e]; exact la)
            · rcases fb b e with z | z
              · exact .inl (lf b z)
              · exact .inr ⟨n, Nat.le_refl _, lv b z⟩)
          exact po2 σ _ _ ⟨s3, s1.f⟩ p3
        | _ => cases es
      | _ => rw [ec] at es; cases es
/-- what a method does to the thing at a, and what comes -/
def MutR (X : Cx) (rr : V → List V → Hp → VK → Prop) (f : D → List D → Option (D × D)) : Prop := ∀ d as c z, f d as = some (c, z) → ∀ (H : Hp) (v : V) (fp : List Addr) (vs : List V) (fa : List Addr), Rp X.K (clX X) H v d fp → fp.Nodup → RpL X.K (clX X) H vs as fa → fa.Nodup → (∀ b ∈ fa, b ∉ fp) →
  ∃ a u o zv f' fz, v = .ref a ∧ H a = some u ∧ isMut u ∧ a ∈ fp ∧ Rp X.K (clX X) (upd H a o) v c f' ∧ Rp X.K (clX X) (upd H a o) zv z fz ∧ (f' ++ fz).Nodup ∧ (∀ b ∈ f' ++ fz, b ∈ fp ∨ b ∈ fa) ∧ ∀ Q : VK, Q zv (upd H a o) → rr v vs H Q
def isTy (T : String) : D → Bool
  | .lst _ => T == "list"
  | .dK _ => T == "dict"
  | .dT _ => false
  | .str _ => T == "str"
  | _ => false
theorem Rp.ty {K : PySem.W.Frag} {cl : CE} {v : V} {d : D} {f : List Addr} {T : String} (h : Rp K cl H v d f) (e : isTy T d = true) : tyV K T v H := by
  cases h with
  | str x => exact beq_iff_eq.mp e
  | lst h r => exact .inl ⟨beq_iff_eq.mp e, _, .of h⟩
  | dK h k r => exact .inr (.inr (.inl ⟨beq_iff_eq.mp e, .inl ⟨_, h⟩⟩))
  | dT h ok hk k hv r => cases e
  | _ => cases e
def eMut (T : String) (r : Nat) (f : D → List D → Option (D × D)) (gs : List D → ER (List D)) : List D → ER D := fun σ => if isTy T (σ.getD r .non) = true then (gs σ).bind fun ds σ1 => match f (σ1.getD r .non) ds with
  | some (c, z) => .ok z (σ1.set r c)
  | none => .stuck
  else .stuck
theorem mut_fin {T : String} {rr : V → List V → Hp → VK → Prop} {f : D → List D → Option (D × D)} {ks : List AK} {Q : VK} (mo : MutR X rr f) (hr : Γ[r]? = some (some .own)) (hb : noBor Γ r = true) (ho : ks.all ownA = true) (g0 : gok Γ n = true) {ds : List D} {vs : List V} {v : V} (hv : σ[r]? = some (some v)) (s : SR X Γ σ H lab σD) (ar : AR X σ σD H lab n ks vs ds)
    (po : Post X W Γx Γ σ [r] n (relE X n .own) H lab Q (match f (σD.getD r .non) ds with
      | some (c, z) => .ok z (σD.set r c)
      | none => .stuck)) : rr v vs H Q := by
  obtain ⟨v', hv', fp, rp, nd, lf⟩ := s.get hr
  rw [hv] at hv'
  cases hv'
  obtain ⟨fa, ra, nda, lfa⟩ := ar.own ho
  cases e : f (σD.getD r .non) ds with
  | none => rw [e] at po; exact po.elim
  | some cz =>
    obtain ⟨c, z⟩ := cz
    rw [e] at po
    have dj : ∀ b ∈ fa, b ∉ fp := fun b hb' z => by
      obtain ⟨j, _, e⟩ := lfa b hb'
      rw [lf b z] at e; cases e
    obtain ⟨a, u, o, zv, f', fz, rfl, hu, mu, ha, rc, rz, ndc, hsub, hQ⟩ := mo _ _ _ _ e H v fp vs fa rp nd ra nda dj
    have hl : ∀ b ∈ a :: (f' ++ fz), lab b = .slt r ∨ ∃ j, n ≤ j ∧ lab b = .tmp j := fun b hb' => by
      rcases List.mem_cons.mp hb' with e | e
      · exact .inl (by rw [e]; exact lf a ha)
      · rcases hsub b e with z | z
        · exact .inl (lf b z)
        · exact .inr (lfa b z)
    obtain ⟨s3, p3⟩ := s.mut (f' := f') (fz := fz) g0 hb hr hv hu mu rc ndc hl
    refine hQ Q (po zv _ _ s3 p3 ⟨fz, rz, (List.nodup_append.mp ndc).2.1, fun b hb' => ?_⟩)
    unfold labMut
    rw [if_pos hb']
theorem ej_mut {T : String} {rr : V → List V → Hp → VK → Prop} {f : D → List D → Option (D × D)} {ks : List AK} {gs : List D → ER (List D)} {ce : Expr} (mo : MutR X rr f) (h : PE X ce (tBM X.K T rr (tVar r) (rdA X W Γx Γ n m ks gs))) (hr : Γ[r]? = some (some .own) := by rfl) (hb : noBor Γ r = true := by decide) (ho : ks.all ownA = true := by rfl) :
    EJ X W Γx Γ n (m ++ [r]) ce (eMut T r f gs) .own := by
  refine pe_imp h fun σ H Q hh => ?_
  obtain ⟨σD, lab, g0, s, po⟩ := hh
  obtain ⟨v, hv, fp, rp, nd, lf⟩ := s.get hr
  unfold eMut at po
  split at po
  · rename_i ht
    refine ⟨v, hv, rp.ty ht, σD, lab, g0, s, po.seq' fun ds σD1 vs H1 lab1 s1 p1 ar po1 => ?_⟩
    exact mut_fin (T := T) mo hr hb ho g0 hv s1 ar po1
  · exact po.elim
/-- an expression whose value is dropped -/
def sDrop (g : List D → ER D) : List D → SO := sOf g fun _ σ => .nxt σ
theorem sj_expr {e : Expr} {g : List D → ER D} {k : Kd} (h : EJ X W Z.Γx Γ n m e g k) (hs : swapsWith e none pos.line X.env = pure false := by rfl) : SJ X W Z Γ Γ n m (.Expr e pos) (sDrop g) := by
  refine ps_imp (ps_expr h hs) fun E σ H hh => ?_
  obtain ⟨σD, lab, fx, g0, s, po⟩ := hh
  exact sof_imp (m2 := []) (fun _ _ _ q => q) g0 s (by rw [List.append_nil]; exact po) fun d σD1 v H1 lab1 s1 p1 r1 (po1 : PostS X W Z fx Γ [] n H1 lab1 E (.nxt σD1)) => po1 σ H1 lab1 s1 (.refl _ _ _ _)
def mAppend : D → List D → Option (D × D)
  | .lst ds, [x] => if ds.length < sizeLine then some (.lst (ds ++ [x]), .non) else none
  | _, _ => none
def mClear : D → List D → Option (D × D)
  | .lst _, [] => some (.lst [], .non)
  | _, _ => none
def mPopAt : D → List D → Option (D × D)
  | .lst ds, [.int i] => if -(2 ^ 63) ≤ i ∧ i < 2 ^ 63 then (seqIndex? i ds.length).bind fun k => (ds[k]?).map fun x => (.lst (ds.eraseIdx k), x) else none
  | _, _ => none
theorem mo_append : MutR X rAppend mAppend := by
  intro d as c z e H v fp vs fa hd nd ha nda dj
  unfold mAppend at e
  split at e
  · rename_i ds x
    split at e
    · rename_i hz
      cases e
      cases hd with
      | lst h r =>
        rename_i a ws f
        rw [List.nodup_cons] at nd
        obtain ⟨w, f1, rfl, rw1⟩ := ha.one_inv
        obtain ⟨w', ws', g1, g2, e1, e2, ra, rb⟩ := ha.cons_inv
        cases e1
        obtain ⟨_, e3⟩ := rb.nil_inv
        subst e3
        rw [List.append_nil] at e2
        subst e2
        have na : a ∉ f ++ fa := fun z => (List.mem_append.mp z).elim nd.1 fun q => dj a q List.mem_cons_self
        refine ⟨a, _, .lst (ws ++ [w]), .non, a :: (f ++ fa), [], rfl, h, True.intro, List.mem_cons_self, .lst upd_same ((r.append (RpL.one ra)).disj na ⟨_, h, True.intro⟩), .non, ?_, fun b hb => ?_, fun Q q => ⟨a, ws, w, rfl, rfl, h, by rw [r.len]; exact hz, q⟩⟩
        · rw [List.append_nil, List.nodup_cons, List.nodup_append]
          exact ⟨na, nd.2, nda, fun x hx y hy e => dj y hy (List.mem_cons_of_mem _ (e ▸ hx))⟩
        · rw [List.append_nil] at hb
          rcases List.mem_cons.mp hb with q | q
          · exact .inl (by rw [q]; exact List.mem_cons_self)
          · exact (List.mem_append.mp q).elim (fun q => .inl (List.mem_cons_of_mem _ q)) .inr
    · cases e
  · cases e
theorem RpL.split_at {K : PySem.W.Frag} {cl : CE} : ∀ {k : Nat} {vs : List V} {ds : List D} {f : List Addr} {d : D}, RpL K cl H vs ds f → ds[k]? = some d → f.Nodup → ∃ f1 f2 v, vs[k]? = some v ∧ RpL K cl H (vs.eraseIdx k) (ds.eraseIdx k) f1 ∧ Rp K cl H v d f2 ∧ (f1 ++ f2).Nodup ∧ ∀ b ∈ f1 ++ f2, b ∈ f
  | k, _, _, _, _, .nil, h, _ => by simp at h
  | 0, _, _, _, _, .cons (f1 := f1) (f2 := f2) a b, h, nd => by
    simp at h
    subst h
    refine ⟨f2, f1, _, rfl, by simpa using b, a, ?_, fun x hx => ?_⟩
    · rw [List.nodup_append] at nd ⊢
      exact ⟨nd.2.1, nd.1, fun x hx y hy e => nd.2.2 y hy x hx e.symm⟩
    · rw [List.mem_append] at hx ⊢
      exact hx.symm
  | k + 1, _, _, _, _, .cons (f1 := f1) (f2 := f2) a b, h, nd => by
    rw [List.nodup_append] at nd
    obtain ⟨g1, g2, v, e1, p, q, n1, n2⟩ := RpL.split_at (k := k) b (by simpa using h) nd.2.1
    refine ⟨f1 ++ g1, g2, v, by simpa using e1, by simpa using RpL.cons a p, q, ?_, fun x hx => ?_⟩
    · rw [List.append_assoc, List.nodup_append]
      exact ⟨nd.1, n1, fun x hx y hy e => nd.2.2 x hx y (n2 y hy) e⟩
    · rw [List.append_assoc, List.mem_append] at hx
      exact List.mem_append.mpr (hx.imp id (n2 x))
theorem mo_popAt : MutR X rPopAt mPopAt := by
  intro d as c z e H v fp vs fa hd nd ha nda dj
  unfold mPopAt at e
  split at e
  · rename_i ds i
    split at e
    · rename_i hb
      rw [Option.bind_eq_some_iff] at e
      obtain ⟨k, hk, e⟩ := e
      rw [Option.map_eq_some_iff] at e
      obtain ⟨x, hx, e⟩ := e
      cases e
      cases hd with
      | lst h r =>
        rename_i a ws f
        obtain ⟨w, f1, rfl, rw1⟩ := ha.one_inv
        cases rw1
        rw [List.nodup_cons] at nd
        obtain ⟨g1, g2, v', e1, p, q, n1, n2⟩ := r.split_at hx nd.2
        have na : a ∉ g1 ++ g2 := fun z => nd.1 (n2 a z)
        refine ⟨a, _, .lst (ws.eraseIdx k), v', a :: g1, g2, rfl, h, True.intro, List.mem_cons_self, .lst upd_same (p.disj (fun z => na (List.mem_append_left _ z)) ⟨_, h, True.intro⟩), q.disj (fun z => na (List.mem_append_right _ z)) ⟨_, h, True.intro⟩, by rw [List.cons_append]; exact List.nodup_cons.mpr ⟨na, n1⟩, fun b hb' => .inl ?_, fun Q qq => ⟨a, ws, i, k, v', rfl, rfl, h, hb.1, hb.2, by rw [r.len]; exact hk, e1, qq⟩⟩
        rw [List.cons_append] at hb'
        exact (List.mem_cons.mp hb').elim (fun z => by rw [z]; exact List.mem_cons_self) fun z => List.mem_cons_of_mem _ (n2 b z)
    · cases e
  · cases e
end
end Ow


namespace Ow
open PySem PySem.Spec PyProof.Rows L2
inductive Tg where
  | nm (i : Nat) | tp (is : List Nat)
def setMany : List Nat → List D → List D → Option (List D)
  | [], [], σ => some σ
  | i :: is, d :: ds, σ => setMany is ds (σ.set i d)
  | _, _, _ => none
def bindT : Tg → D → List D → Option (List D)
  | .nm i, d, σ => some (σ.set i d)
  | .tp is, .tup ds, σ => setMany is ds σ
  | _, _, _ => none
def Tg.slots : Tg → List Nat
  | .nm i => [i]
  | .tp is => is
def tgs : List Nat → TGs
  | [] => gNil
  | i :: is => gCons (gName i) (tgs is)
def tgR (K : PySem.W.Frag) : Tg → TG
  | .nm i => gName i
  | .tp is => gTup K is.length (tgs is)
def putsC : Ctx → List Nat → List Lab → Ctx
  | Γ, [], _ => Γ
  | Γ, i :: is, R => putsC (putC Γ i (.bor R)) is (dropL i R)
def tgC (Γ : Ctx) (T : Tg) (R : List Lab) : Ctx := putsC Γ T.slots R
section
variable {X : Cx} {W : WX} {Z : SC} {Γx Γ Γ' : Ctx} {n : Nat} {m m1 m2 : List Nat} {σ : St} {H : Hp} {lab : Labs} {σD : List D} {pos : Pos} {R : List Lab} {fx : Nat → V} {io : List Nat}
theorem dropL_ok {i n : Nat} {m : List Nat} (h : R.all (keepL m n) = true) : (dropL i R).all (keepL m n) = true := List.all_eq_true.mpr fun l hl => List.all_eq_true.mp h l (List.mem_filter.mp hl).1
theorem gok_put {i : Nat} {k : Kd} (g : gok Γ n = true) (ok : okK [] n k = true) : gok (putC Γ i k) n = true := by
  refine List.all_eq_true.mpr fun o ho => ?_
  obtain ⟨q, hq⟩ := List.mem_iff_getElem?.mp ho
  have subK : ∀ k : Kd, okK [] n k = true → okK [] n (dropK i k) = true := fun k hk => by
    cases k with
    | own => rfl
    | bor R => exact dropL_ok hk
    | spn R => exact dropL_ok hk
    | exc R => exact dropL_ok hk
  unfold putC at hq
  by_cases z : q = i
  · subst z
    have hl : q < (Γ.map fun o => o.map (dropK q)).length := by
      have := (List.getElem?_eq_some_iff.mp hq).1
      rwa [List.length_set] at this
    rw [List.getElem?_set_self hl] at hq
    cases hq
    exact subK _ ok
  · rw [List.getElem?_set_ne (Ne.symm z), List.getElem?_map] at hq
    cases e2 : Γ[q]? with
    | none => rw [e2] at hq; cases hq
    | some o' =>
      rw [e2] at hq
      cases o' with
      | none => cases hq; rfl
      | some k0 => cases hq; exact subK _ (gok.at_ g e2)
theorem VR.bor_put {K : PySem.W.Frag} {cl : CE} {i n : Nat} {v : V} {d : D} {t t' : Lab} (h : VR K cl H lab (.bor R) t v d) (ok : R.all (keepL [] n) = true) : VR K cl H (labPut i n lab) (.bor (dropL i R)) t' v d := by
  obtain ⟨fp, r, l⟩ := h
  exact ⟨fp, r, fun a ha => bw_put (l a ha) ok⟩
theorem SRx.put {i : Nat} {k : Kd} {v : V} {d : D} (s : SRx X io fx Γ σ H lab σD) (g : gok Γ n = true) (hi : i < X.N.length) (hio : i ∉ io) (h : VR X.K (clX X) H lab k (.tmp n) v d) (ok : okK [] n k = true) : SRx X io fx (putC Γ i k) (σ.set i (some v)) H (labPut i n lab) (σD.set i d) :=
  ⟨s.s.put g hi h ok, fun j hj => by
    rw [List.getElem?_set_ne]
    · exact s.f j hj
    · rintro rfl; exact hio hj⟩
theorem puts_ok : ∀ (is : List Nat) {vs : List V} {ds : List D} {Γ : Ctx} {σ : St} {lab : Labs} {σD σD' : List D} {R : List Lab} {Q : St → Hp → Prop}, SRx X io fx Γ σ H lab σD → gok Γ n = true → R.all (keepL [] n) = true → (∀ i ∈ is, i < X.N.length ∧ i ∉ io) → vs.length = ds.length →
    (∀ (j : Nat) v d, vs[j]? = some v → ds[j]? = some d → VR X.K (clX X) H lab (.bor R) (.tmp n) v d) → setMany is ds σD = some σD' →
    (∀ σ' lab', SRx X io fx (putsC Γ is R) σ' H lab' σD' → gok (putsC Γ is R) n = true → Pres is n H lab H lab' → Q σ' H) → tgs is vs σ H Q
  | [], vs, ds, Γ, σ, lab, σD, σD', R, Q, s, g, ok, hi, hl, hv, e, k => by
    cases ds with
    | nil =>
      cases vs with
      | nil => cases e; exact ⟨rfl, k σ lab s g (.refl _ _ _ _)⟩
      | cons v vs => cases hl
    | cons d ds => cases e
  | i :: is, vs, ds, Γ, σ, lab, σD, σD', R, Q, s, g, ok, hi, hl, hv, e, k => by
    cases ds with
    | nil => cases e
    | cons d ds =>
      cases vs with
      | nil => cases hl
      | cons v vs =>
        have r0 := hv 0 v d rfl rfl
        obtain ⟨h1, h2⟩ := hi i List.mem_cons_self
        refine ⟨v, vs, rfl, puts_ok is (R := dropL i R) (s.put g h1 h2 r0 ok) (gok_put g ok) (dropL_ok ok) (fun j hj => hi j (List.mem_cons_of_mem _ hj)) (by simpa using hl) (fun j w x a b => ?_) e fun σ' lab' s' g' p => ?_⟩
        · exact (hv (j + 1) w x (by simpa using a) (by simpa using b)).bor_put ok
        · refine k σ' lab' s' g' (Pres.trans (m1 := [i]) (n1 := n) (m2 := is) (n2 := n) .put p (.of (fun q hq => by simp at hq; simp [hq]) (Nat.le_refl _)) (.of (fun q hq => List.mem_cons_of_mem _ hq) (Nat.le_refl _)))
/-- what is borrowed is bound to the target -/
theorem tg_ok {T : Tg} {v : V} {d : D} {σD' : List D} {Q : St → Hp → Prop} (s : SRx X io fx Γ σ H lab σD) (g : gok Γ n = true) (ok : R.all (keepL [] n) = true) (hi : ∀ i ∈ T.slots, i < X.N.length ∧ i ∉ io) (r : VR X.K (clX X) H lab (.bor R) (.tmp n) v d) (e : bindT T d σD = some σD')
    (k : ∀ σ' lab', SRx X io fx (tgC Γ T R) σ' H lab' σD' → gok (tgC Γ T R) n = true → Pres T.slots n H lab H lab' → Q σ' H) : tgR X.K T v σ H Q := by
  cases T with
  | nm i =>
    cases e
    obtain ⟨h1, h2⟩ := hi i List.mem_cons_self
    exact k _ _ (s.put g h1 h2 r ok) (gok_put g ok) .put
  | tp is =>
    cases d with
    | tup ds =>
      obtain ⟨fp, rp, l⟩ := r
      cases rp with
      | tup h rl =>
        rename_i a vs
        have hlen : ∀ (is : List Nat) (ds σ0 σ1 : List D), setMany is ds σ0 = some σ1 → ds.length = is.length := by
          intro is
          induction is with
          | nil => intro ds σ0 σ1 e; cases ds with | nil => rfl | cons _ _ => cases e
          | cons i is ih => intro ds σ0 σ1 e; cases ds with | nil => cases e | cons d ds => simp [ih ds _ _ e]
        refine ⟨a, vs, rfl, h, by rw [rl.len, hlen is ds _ _ e], puts_ok is s g ok hi rl.len (fun j v x a b => ?_) e k⟩
        obtain ⟨w, f, e1, e2, e3⟩ := rl.get b
        rw [a] at e1
        cases e1
        exact ⟨f, e2, fun y hy => l y (e3.subset hy)⟩
    | _ => cases e
def IterOk (X : Cx) (n : Nat) (R : List Lab) (J : It) (ds : List D) (H : Hp) (lab : Labs) : Prop := ∀ m' H' lab', Pres m' (n + 1) H lab H' lab' → R.all (keepL m' (n + 1)) = true → ∀ i : Nat, i ≤ ds.length →
  (i = ds.length → J.stop i H') ∧ ∀ d, ds[i]? = some d → J.go i H' ∧ ∀ x H'', J.yld i H' x H'' → ∃ lab'', (∀ m'' n'', Pres m'' n'' H' lab' H'' lab'') ∧ VR X.K (clX X) H'' lab'' (.bor R) (.tmp (n + 1)) x d
abbrev relI (X : Cx) (n : Nat) (R : List Lab) : Rel It (List D) := fun _ H lab J ds => IterOk X n R J ds H lab
def rdI (X : Cx) (W : WX) (Γx Γ : Ctx) (n : Nat) (m : List Nat) (R : List Lab) (g : List D → ER (List D)) : TI := fun σ H Q => ∃ σD lab, gok Γ n = true ∧ SR X Γ σ H lab σD ∧ Post X W Γx Γ σ m n (relI X n R) H lab Q (g σD)
abbrev IJ (X : Cx) (W : WX) (Γx Γ : Ctx) (n : Nat) (m : List Nat) (tg e : Expr) (g : List D → ER (List D)) (R : List Lab) : Prop := PI X tg e (rdI X W Γx Γ n m R g)
theorem pi_imp {X : Cx} {tg e : Expr} {t u : TI} (h : PI X tg e t) (i : ∀ σ H Q, u σ H Q → t σ H Q) : PI X tg e u := ⟨fun pins s σ H Q I q => h.run pins s σ H Q I (i σ H Q q)⟩
def iterR (t : Lab) : Kd → List Lab
  | .own => [t]
  | .bor R => R
  | .spn R => R
  | .exc R => R
theorem VR.elems {K : PySem.W.Frag} {cl : CE} {k : Kd} {t t' : Lab} {v : V} {d : D} {ds : List D} (h : VR K cl H lab k t v d) (e : d = .lst ds ∨ d = .fzl ds) : ∃ a vs, v = .ref a ∧ SqL K H a vs ∧ vs.length = ds.length ∧ ∀ (i : Nat) x, ds[i]? = some x → ∃ w, vs[i]? = some w ∧ VR K cl H lab (.bor (iterR t k)) t' w x := by
  have key : ∀ {vs : List V} {fp fp' : List Addr} {R : List Lab}, RpL K cl H vs ds fp' → (∀ a ∈ fp', a ∈ fp) → (∀ a ∈ fp, bw R (lab a)) → ∀ (i : Nat) x, ds[i]? = some x → ∃ w, vs[i]? = some w ∧ VR K cl H lab (.bor R) t' w x := fun rr sb l i x hx => by
    obtain ⟨w, f, a, b, c⟩ := rr.get hx
    exact ⟨w, a, f, b, fun y hy => l y (sb y (c.subset hy))⟩
  cases k with
  | own =>
    obtain ⟨fp, r, nd, l⟩ := h
    have l' : ∀ a ∈ fp, bw [t] (lab a) := fun a ha => .inr (by rw [l a ha]; exact List.mem_cons_self)
    rcases e with rfl | rfl
    · cases r with
      | lst h r => exact ⟨_, _, rfl, .of h, r.len, key r (fun a ha => List.mem_cons_of_mem _ ha) l'⟩
    · cases r with
      | lsf h r => exact ⟨_, _, rfl, h.sql, r.len, key r (fun a ha => ha) l'⟩
  | bor R =>
    obtain ⟨fp, r, l⟩ := h
    rcases e with rfl | rfl
    · cases r with
      | lst h r => exact ⟨_, _, rfl, .of h, r.len, key r (fun a ha => List.mem_cons_of_mem _ ha) l⟩
    · cases r with
      | lsf h r => exact ⟨_, _, rfl, h.sql, r.len, key r (fun a ha => ha) l⟩
  | spn R =>
    obtain ⟨a, vs, ds', fp, rfl, rfl, ha, r, la, l⟩ := h
    rcases e with e | e
    · cases e
      exact ⟨a, vs, rfl, .of ha, r.len, key r (fun a ha => ha) fun b hb => (l b hb).2⟩
    · cases e
  | exc R =>
    obtain ⟨fp, r, _⟩ := h
    cases r <;> rcases e with e | e <;> cases e
theorem okK_iter {k : Kd} {m : List Nat} (h : (iterR (.tmp n) k).all (keepL m (n + 1)) = true) : okK m (n + 1) k = true := by
  cases k with
  | own => rfl
  | bor R => exact h
  | spn R => exact h
  | exc R => exact h
def gList (g : List D → ER D) : List D → ER (List D) := fun σ => (g σ).bind fun d σ1 => match d with
  | .lst ds => .ok ds σ1
  | .fzl ds => .ok ds σ1
  | _ => .stuck
def gTupl (g : List D → ER D) : List D → ER (List D) := fun σ => (g σ).bind fun d σ1 => match d with
  | .tup ds => .ok ds σ1
  | _ => .stuck
theorem iter_list {k : Kd} {v : V} {d : D} {ds : List D} (r : VR X.K (clX X) H lab k (.tmp n) v d) (e : d = .lst ds ∨ d = .fzl ds) : ∃ a, v = .ref a ∧ (∃ xs, SqL X.K H a xs) ∧ IterOk X n (iterR (.tmp n) k) (Itl X.K a) ds H lab := by
  obtain ⟨a, vs, rfl, hs, _⟩ := r.elems (t' := .tmp n) e
  refine ⟨a, rfl, ⟨vs, hs⟩, fun m' H' lab' p ok i hi => ?_⟩
  obtain ⟨a', vs', ea, hs', hl, hv⟩ := (r.pres p (okK_iter ok) (by simp [keepL])).elems (t' := .tmp (n + 1)) e
  cases ea
  refine ⟨fun ei => ⟨vs', hs', by omega⟩, fun x hx => ?_⟩
  obtain ⟨w, hw, hr⟩ := hv i x hx
  refine ⟨⟨vs', w, hs', hw⟩, fun y H'' hy => ?_⟩
  obtain ⟨rfl, hy⟩ := hy
  have := hy vs' hs'
  rw [hw] at this
  cases this
  exact ⟨lab', fun _ _ => .refl _ _ _ _, hr⟩
theorem ij_list {tg e : Expr} {g : List D → ER D} {k : Kd} (h : EJ X W Γx Γ n m e g k) : IJ X W Γx Γ n m tg e (gList g) (iterR (.tmp n) k) := by
  refine pi_imp (pi_list h) fun σ H Q hh => ?_
  obtain ⟨σD, lab, g0, s, po⟩ := hh
  refine ⟨σD, lab, g0, s, po.last fun d σD1 v H1 lab1 s1 p1 r1 po1 => ?_⟩
  cases d with
  | lst ds =>
    obtain ⟨a, ea, hx, hi⟩ := iter_list r1 (.inl rfl)
    exact ⟨a, ea, hx, po1 _ H1 lab1 s1 (.refl _ _ _ _) hi⟩
  | fzl ds =>
    obtain ⟨a, ea, hx, hi⟩ := iter_list r1 (.inr rfl)
    exact ⟨a, ea, hx, po1 _ H1 lab1 s1 (.refl _ _ _ _) hi⟩
  | _ => exact po1.elim
def rngD (lo : Int) (n : Nat) : List D := (List.range n).map fun (i : Nat) => D.int (lo + (i : Int))
def gRng : List D → Option (List D)
  | [.int j] => if -(2 ^ 62) ≤ j ∧ j < 2 ^ 62 then some (rngD 0 j.toNat) else none
  | [.int i, .int j] => if -(2 ^ 62) ≤ i ∧ i < 2 ^ 62 ∧ -(2 ^ 62) ≤ j ∧ j < 2 ^ 62 then some (rngD i (j - i).toNat) else none
  | _ => none
def gRange (gs : List D → ER (List D)) : List D → ER (List D) := fun σ => (gs σ).bind fun ds σ1 => ofO (gRng ds) σ1
theorem iter_range {lo : Int} {q : Nat} : IterOk X n [] (Itr lo q) (rngD lo q) H lab := fun m' H' lab' p ok i hi => by
  have hl : (rngD lo q).length = q := by simp [rngD]
  refine ⟨fun e => Nat.le_of_eq (by rw [e, hl]), fun d hd => ?_⟩
  unfold rngD at hd
  rw [List.getElem?_map] at hd
  have hi' : i < q := by
    cases z : (List.range q)[i]? with
    | none => rw [z] at hd; cases hd
    | some j => simpa using (List.getElem?_eq_some_iff.mp z).1
  rw [List.getElem?_range hi'] at hd
  cases hd
  refine ⟨hi', fun x H'' hy => ?_⟩
  obtain ⟨rfl, rfl⟩ := hy
  exact ⟨lab', fun _ _ => .refl _ _ _ _, [], .int _, by simp⟩
theorem range1_imp {e : Expr} {gs : List D → ER (List D)} {k : Kd} (σ : St) (H : Hp) (Q : It → Hp → Prop) (hh : rdI X W Γx Γ n m [] (gRange gs) σ H Q) : iRng1 (rdA X W Γx Γ n m [.val k] gs) σ H Q := by
  obtain ⟨σD, lab, g0, s, po⟩ := hh
  refine ⟨σD, lab, g0, s, po.last fun ds σD1 vs H1 lab1 s1 p1 r1 po1 => ?_⟩
  obtain ⟨z, e, q⟩ := po1.done
  obtain ⟨v, vs', d, ds', e1, e2, r, e3, e4⟩ := r1
  subst e1 e2 e3 e4
  cases d with
  | int j =>
    simp only [gRng] at e
    split at e
    · rename_i hb
      cases e
      have ev := r.int
      subst ev
      exact ⟨j, rfl, hb.1, hb.2, q _ H1 lab1 s1 (.refl _ _ _ _) iter_range⟩
    · cases e
  | _ => cases e
theorem ij_range1 {tg a : Expr} {gs : List D → ER (List D)} {k : Kd} {p : Pos} (hm : X.mg "range" = none) (ha : AJ X W Γx Γ n m [a] gs [.val k]) (hg : Gl X "range" := by rfl) (hs : starEach [a] X.env = [(false, eval a X.env)] := by rfl) : IJ X W Γx Γ n m tg (.Call (.Name "range" p) [a] [] pos) (gRange gs) [] :=
  pi_imp (pi_range1 hg hm ha hs) fun σ H Q hh => range1_imp (e := a) σ H Q hh
theorem ij_range2 {tg a b : Expr} {gs : List D → ER (List D)} {k k1 : Kd} {p : Pos} (hm : X.mg "range" = none) (ha : AJ X W Γx Γ n m [a, b] gs [.val k, .val k1]) (hg : Gl X "range" := by rfl) (hs : starEach [a, b] X.env = [(false, eval a X.env), (false, eval b X.env)] := by rfl) (hs2 : starEach [b] X.env = [(false, eval b X.env)] := by rfl) : IJ X W Γx Γ n m tg (.Call (.Name "range" p) [a, b] [] pos) (gRange gs) [] := by
  refine pi_imp (pi_range2 hg hm ha hs hs2) fun σ H Q hh => ?_
  obtain ⟨σD, lab, g0, s, po⟩ := hh
  refine ⟨σD, lab, g0, s, po.last fun ds σD1 vs H1 lab1 s1 p1 r1 po1 => ?_⟩
  obtain ⟨z, e, q⟩ := po1.done
  obtain ⟨v, vs', d, ds', e1, e2, r, v2, vs2, d2, ds2, e3, e4, r2, e5, e6⟩ := r1
  subst e1 e2 e3 e4 e5 e6
  cases d with
  | int i => cases d2 with
    | int j =>
      simp only [gRng] at e
      split at e
      · rename_i hb
        cases e
        have ev := r.int
        have ev2 := r2.int
        subst ev ev2
        exact ⟨i, j, rfl, hb, q _ H1 lab1 s1 (.refl _ _ _ _) iter_range⟩
      · cases e
    | _ => cases e
  | _ => cases d2 <;> cases e
def forL (T : Tg) (G : List D → SO) : List D → List D → SO
  | [], σ => .nxt σ
  | d :: ds, σ => match bindT T d σ with
    | none => .stuck
    | some σ1 => match G σ1 with
      | .nxt σ2 => forL T G ds σ2
      | .cnt σ2 => forL T G ds σ2
      | .brk σ2 => .nxt σ2
      | r => r
def sFor (T : Tg) (gi : List D → ER (List D)) (G : List D → SO) : List D → SO := fun σ => match gi σ with
  | .stuck => .stuck
  | .exc c p σ1 => .exc c p σ1
  | .ok ds σ1 => forL T G ds σ1
def tgOk (T : Tg) (nl : Nat) (io : List Nat) : Bool := T.slots.all fun i => decide (i < nl) && !io.contains i
/-- what a loop denotes is what the layer asks of one -/
theorem for_imp {gi : List D → ER (List D)} {G : List D → SO} {T : Tg} (hle : leC Γ' Γ = true) (hR : R.all (keepL (T.slots ++ m2) (n + 1)) = true) (ht : tgOk T X.N.length Z.io = true) (E : Ends) (σ : St) (H : Hp) (h : rdS X W Z Γ Γ n (m1 ++ (T.slots ++ m2)) (sFor T gi G) E σ H) :
    tFor (rdI X W Z.Γx Γ n m1 R gi) (tgR X.K T) (rdS X W { Z with Γb := Γ } (tgC Γ T R) Γ' (n + 1) m2 G) E σ H := by
  obtain ⟨σD, lab, fx, g0, s, po⟩ := h
  refine ⟨σD, lab, g0, s.s, ?_⟩
  unfold sFor at po
  cases e : gi σD with
  | stuck => rw [e] at po; exact po
  | exc cn py σ1 =>
    rw [e] at po
    intro H1 lab1 C dd hcn s1 p1 pay
    exact po σ H1 lab1 C dd hcn ⟨s1, s.f⟩ (p1.mono (SubK.left _ _ _)) pay
  | ok ds σ1 =>
    rw [e] at po
    intro J H1 lab1 s1 p1 it
    have po1 := PostS.later po p1 (SubK.left _ _ _) (SubK.right _ _ _)
    have it : IterOk X n R J ds H1 lab1 := it
    have hts : ∀ i ∈ T.slots, i < X.N.length ∧ i ∉ Z.io := fun i hi => by
      have := List.all_eq_true.mp ht i hi
      simpa using this
    have hR0 : R.all (keepL [] (n + 1)) = true := List.all_eq_true.mpr fun l hl => by
      have := List.all_eq_true.mp hR l hl
      cases l <;> simp_all [keepL]
    refine ⟨fun i k σ H => k = ds.length - i ∧ i ≤ ds.length ∧ ∃ σD lab, SRx X Z.io fx Γ σ H lab σD ∧ Pres (T.slots ++ m2) (n + 1) H1 lab1 H lab ∧ PostS X W Z fx Γ (T.slots ++ m2) n H lab E (forL T G (ds.drop i) σD),
      ⟨ds.length, by simp, Nat.zero_le _, σ1, lab1, ⟨s1, s.f⟩, .refl _ _ _ _, by rw [List.drop_zero]; exact po1⟩, ?_⟩
    rintro i k σ H ⟨rfl, hi, σD, lab, s, p, po⟩
    obtain ⟨hstop, hgo⟩ := it _ H lab p hR i hi
    by_cases hlt : i < ds.length
    · obtain ⟨go, hy⟩ := hgo ds[i] (List.getElem?_eq_getElem hlt)
      refine .inr ⟨go, fun σ' H' => ∃ σD' lab', SRx X Z.io fx Γ σ' H' lab' σD' ∧ Pres (T.slots ++ m2) (n + 1) H1 lab1 H' lab' ∧ PostS X W Z fx Γ (T.slots ++ m2) n H' lab' E (forL T G (ds.drop (i + 1)) σD'), fun σ' H' q => ⟨ds.length - (i + 1), by omega, rfl, hlt, q⟩, fun x H'' hx => ?_⟩
      obtain ⟨lab2, p2, r2⟩ := hy x H'' hx
      rw [List.drop_eq_getElem_cons hlt, forL] at po
      have s2 : SRx X Z.io fx Γ σ H'' lab2 σD := ⟨s.s.pres (gok.up g0) (p2 _ _), s.f⟩
      have po2 := PostS.later po (p2 (T.slots ++ m2) n) (SubK.refl _ _) (SubK.refl _ _)
      have p3 : Pres (T.slots ++ m2) (n + 1) H1 lab1 H'' lab2 := p.trans (p2 _ _) (SubK.refl _ _) (SubK.refl _ _)
      cases eb : bindT T ds[i] σD with
      | none => rw [eb] at po2; exact po2.elim
      | some σD2 =>
        rw [eb] at po2
        dsimp only at po2
        refine tg_ok s2 (gok.up g0) hR0 hts r2 eb fun σ3 lab3 s3 g3 p4 => ?_
        have p5 : Pres (T.slots ++ m2) (n + 1) H1 lab1 H'' lab3 := p3.trans (p4.mono (SubK.left _ _ _)) (SubK.refl _ _) (SubK.refl _ _)
        have po3 := PostS.later po2 (p4.mono (m := T.slots ++ m2) (n := n + 1) (SubK.left _ _ _)) (SubK.up _ _) (SubK.refl _ _)
        refine ⟨σD2, lab3, fx, g3, s3, ?_⟩
        have up2 : SubK (T.slots ++ m2) n m2 (n + 1) := (SubK.right _ _ _).trans (SubK.up _ _)
        cases eg : G σD2 with
        | stuck => rw [eg] at po3; exact po3
        | nxt σ5 =>
          rw [eg] at po3
          exact fun σ' H' lab' s' p' => ⟨σ5, lab', ⟨s'.s.weak hle, s'.f⟩, p5.trans (p'.mono (SubK.right _ _ _)) (SubK.refl _ _) (SubK.refl _ _), PostS.later po3 p' up2 (SubK.refl _ _)⟩
        | cnt σ5 =>
          rw [eg] at po3
          exact fun σ' H' lab' s' p' => ⟨σ5, lab', s', p5.trans (p'.mono (SubK.right _ _ _)) (SubK.refl _ _) (SubK.refl _ _), PostS.later po3 p' up2 (SubK.refl _ _)⟩
        | brk σ5 => rw [eg] at po3; exact fun σ' H' lab' s' p' => po3 σ' H' lab' s' (p'.mono up2)
        | ret d σ5 => rw [eg] at po3; exact po3
        | exc cn py σ5 => rw [eg] at po3; exact fun σ' H' lab' C dd hcn s' p' pay => po3 σ' H' lab' C dd hcn s' (p'.mono up2) (pay.mono (Nat.le_succ _))
    · have ei : i = ds.length := by omega
      refine .inl ⟨hstop ei, ?_⟩
      rw [ei, List.drop_length] at po
      exact po σ H lab s (.refl _ _ _ _)
theorem sj_for {tg iter : Expr} {body : List Stmt} {gi : List D → ER (List D)} {G : List D → SO} {T : Tg} (hp : PassesOwn (model X.prog X.w) X.A X.env X.xe) (hc : X.calm = true) (hi : IJ X W Z.Γx Γ n m1 tg iter gi R) (hg : PG X tg (tgR X.K T))
    (hb : BJ X W { Z with Γb := Γ } (tgC Γ T R) Γ' (n + 1) m2 body G) (hle : leC Γ' Γ = true := by decide) (hR : R.all (keepL (T.slots ++ m2) (n + 1)) = true := by decide) (ht : tgOk T X.N.length Z.io = true := by rfl)
    (hs : ∀ x, foldedSetIterable iter X.env x = pure x := by intro _; rfl) : SJ X W Z Γ Γ n (m1 ++ (T.slots ++ m2)) (.For tg iter body [] pos) (sFor T gi G) :=
  ps_imp (ps_for hp hc hi hg hb hs) fun E σ H h => for_imp hle hR ht E σ H h
end
end Ow


namespace Ow
open PySem PySem.Spec PyProof.Rows L2
def sRaise (c : Str) : List D → SO := fun σ => .exc c .non σ
section
variable {X : Cx} {W : WX} {Z : SC} {Γx Γ Γ' Γ1 Γ2 Γt : Ctx} {n : Nat} {m m1 m2 : List Nat} {pos : Pos}
theorem sj_raise {c : Str} {C : Addr} {e : Expr} (hc : X.calm = true) (tk : L2N.Takes X W) (mk : L2N.PMk X e (fun _ H Q => Q (.ref C) none H)) (gC : X.mg c = some (.ref C)) (hp : pfOf c = none := by decide) (l : leC Γ Z.Γx = true := by decide) :
    SJ X W Z Γ Γ' n [] (.Raise (some e) none pos) (sRaise c) := ps_imp (L2N.ps_raise hc tk mk) fun E σ H h => by
  obtain ⟨σD, lab, fx, g0, s, po⟩ := h
  refine po σ H lab C none gC ⟨s.s.weak l, s.f⟩ (.refl _ _ _ _) ?_
  unfold PayOk
  rw [hp]
  exact ⟨rfl, rfl⟩
end
/-- no slot holds an exception -/
def noX (Γ : Ctx) : Bool := Γ.all fun o => match o with
  | some (.exc _) => false
  | _ => true
structure Like (X X' : Cx) : Prop where
  N : X'.N = X.N
  K : X'.K = X.K
  mg : X'.mg = X.mg
theorem Like.symm {X X' : Cx} (l : Like X X') : Like X' X := ⟨l.N.symm, l.K.symm, l.mg.symm⟩
theorem VR.cn {K : PySem.W.Frag} {cl cl' : CE} {H : Hp} {lab : Labs} {k : Kd} {t : Lab} {v : V} {d : D} (h : VR K cl H lab k t v d) (h1 : ∀ c C, cl.cl c C → cl'.cl c C) (hk : ∀ R, k ≠ .exc R) : VR K cl' H lab k t v d := by
  cases k with
  | own => obtain ⟨fp, r, q⟩ := h; exact ⟨fp, r.ce h1, q⟩
  | bor R => obtain ⟨fp, r, q⟩ := h; exact ⟨fp, r.ce h1, q⟩
  | spn R => obtain ⟨a, vs, ds, fp, e1, e2, ha, r, q⟩ := h; exact ⟨a, vs, ds, fp, e1, e2, ha, r.ce h1, q⟩
  | exc R => exact absurd rfl (hk R)
theorem Like.vr {X X' : Cx} (l : Like X X') {H : Hp} {lab : Labs} {k : Kd} {t : Lab} {v : V} {d : D} (h : VR X.K (clX X) H lab k t v d) (hk : ∀ R, k ≠ .exc R) : VR X'.K (clX X') H lab k t v d := by
  rw [l.K]
  exact h.cn (fun c C e => by show X'.mg c = _; rw [l.mg]; exact e) hk
theorem SR.like {X X' : Cx} (l : Like X X') {Γ : Ctx} (hn : noX Γ = true) {σ : St} {H : Hp} {lab : Labs} {σD : List D} (s : SR X Γ σ H lab σD) : SR X' Γ σ H lab σD :=
  ⟨by rw [l.N]; exact s.l1, by rw [l.N]; exact s.l2, fun i k e => by
    obtain ⟨v, d, a, b, c⟩ := s.at_ i k e
    refine ⟨v, d, a, b, l.vr c fun R z => ?_⟩
    have := List.all_eq_true.mp hn _ (List.mem_of_getElem? e)
    rw [z] at this
    cases this⟩
theorem SRx.like {X X' : Cx} (l : Like X X') {Γ : Ctx} (hn : noX Γ = true) {io : List Nat} {fx : Nat → V} {σ : St} {H : Hp} {lab : Labs} {σD : List D} (s : SRx X io fx Γ σ H lab σD) : SRx X' io fx Γ σ H lab σD := ⟨s.s.like l hn, s.f⟩
theorem PayOk.like {X X' : Cx} (l : Like X X') {H : Hp} {lab : Labs} {n : Nat} {c : Str} {p : D} {dd : Option Addr} (h : PayOk X H lab n c p dd) : PayOk X' H lab n c p dd := by
  unfold PayOk at h ⊢
  split at h
  · exact h
  · obtain ⟨d, v, j, a, b, e1, e2, e3⟩ := h
    exact ⟨d, v, j, a, b, e1, e2, l.vr e3 fun R z => by cases z⟩
/-- no exception of its own -/
def SO.noExc : SO → SO
  | .exc _ _ _ => .stuck
  | r => r
def sTry (G : List D → SO) (hit : Str → Option Bool) (i : Nat) (Gs : List D → SO) : List D → SO := fun σ => match G σ with
  | .exc c p σ1 => (match hit c with
    | none => .stuck
    | some true => (Gs (σ1.set i (.exn c p))).noExc
    | some false => .exc c p σ1)
  | r => r
def labExc (i n : Nat) (lab : Labs) : Labs := fun a => match lab a with
  | .slt j => if j = i then .fro else .slt j
  | .tmp j => if n ≤ j then .slt i else .tmp j
  | l => l
section
variable {X : Cx} {W : WX} {Z : SC} {Γx Γ Γ' Γ1 Γ2 Γt : Ctx} {n i : Nat} {m m1 m2 : List Nat} {pos pos' np : Pos} {H : Hp} {lab : Labs} {σ : St} {σD : List D}
theorem Pres.exc : Pres [i] n H lab H (labExc i n lab) := .relab (fun a h => by
    unfold labExc
    split
    · rename_i j e
      rw [e] at h
      rw [if_neg (by rintro rfl; simp [keepL] at h), e]
    · rename_i j e
      rw [e] at h
      simp only [keepL, decide_eq_true_eq] at h
      rw [if_neg (by omega), e]
    · rfl) fun a h => by
    unfold labExc at h ⊢
    split
    · rename_i j e
      rw [e] at h
      dsimp only at h
      split at h <;> cases h
    · rename_i j e
      rw [e] at h
      dsimp only at h
      split at h <;> cases h
    · rfl
end
end Ow


namespace Ow
open PySem PySem.Spec PySem.SeqAt PyProof.Rows L2
inductive Tn where
  | non | bool | int | str | tuple | list | dict
  deriving DecidableEq, Repr
def Tn.s : Tn → String
  | .non => "NoneType"
  | .bool => "bool"
  | .int => "int"
  | .str => "str"
  | .tuple => "tuple"
  | .list => "list"
  | .dict => "dict"
def D.tn : D → Option Tn
  | .non => some .non
  | .bl _ => some .bool
  | .int _ => some .int
  | .str _ => some .str
  | .tup _ => some .tuple
  | .lst _ => some .list
  | .fzl _ => some .list
  | .dK _ => some .dict
  | .dT _ => none
  | _ => none
def Tn.sub : Tn → Tn → Bool
  | .bool, .int => true
  | a, b => decide (a = b)
section
variable {X : Cx} {W : WX} {Z : SC} {Γx Γ Γ' : Ctx} {n r : Nat} {m m1 m2 : List Nat} {pos p p2 : Pos} {a b o e : Expr} {es : List Expr} {ga gb g : List D → ER D} {gs : List D → ER (List D)} {k k1 : Kd} {ks : List AK}
def eIsX (hit : Str → Option Bool) (g : List D → ER D) : List D → ER D := fun σ => (g σ).bind fun d σ1 => match d with
  | .exn c _ => ofO ((hit c).map .bl) σ1
  | _ => .stuck
/-- the exception at a, of the class C, and its dict where it has one -/
structure ExAt (X : Cx) (H : Hp) (a C : Addr) (oe : Obj) (dd : Option Addr) : Prop where
  pin : (a, oe) ∈ X.pn
  fields : ∃ vs, oe.data = .fields vs
  zc : Zc (.ref C) dd oe
  dict : ∀ d, dd = some d → ∃ fs, H d = some (.xd fs)
theorem RpE.at_ {H : Hp} {v : V} {c : Str} {p : D} {fp : List Addr} (r : RpE X.K (clX X) H v (.exn c p) fp) : ∃ (a C : Addr) (oe : Obj) (dd : Option Addr), v = .ref a ∧ X.mg c = some (.ref C) ∧ ExAt X H a C oe dd ∧
    match pfOf c with
    | none => p = .non ∧ dd = none ∧ fp = []
    | some f => ∃ d y fq, dd = some d ∧ H d = some (.xd [(f, y)]) ∧ Rp X.K (clX X) H y p fq ∧ fp = d :: fq := by
  have mem : ∀ {a : Addr} {oe : Obj}, X.pn.head? = some (a, oe) → (a, oe) ∈ X.pn := fun {a oe} h => by
    cases e : X.pn with
    | nil => rw [e] at h; cases h
    | cons x l => rw [e] at h; cases h; exact List.mem_cons_self
  cases r with
  | @e0 a c hx hp =>
    obtain ⟨_, oe, vs, C, head, fields, hC, hz⟩ := hx
    refine ⟨a, C, oe, none, rfl, hC, ⟨mem head, ⟨vs, fields⟩, hz, nofun⟩, ?_⟩
    rw [hp]; exact ⟨rfl, rfl, rfl⟩
  | @e1 a d c f y p fq hx hp hd rr =>
    obtain ⟨_, oe, vs, C, head, fields, hC, hz⟩ := hx
    refine ⟨a, C, oe, some d, rfl, hC, ⟨mem head, ⟨vs, fields⟩, hz, fun d' e => by cases e; exact ⟨_, hd⟩⟩, ?_⟩
    rw [hp]; exact ⟨d, y, fq, rfl, hd, rr, rfl⟩
def eMeth (T : String) (f : D → List D → Option D) (g : List D → ER D) (gs : List D → ER (List D)) : List D → ER D := fun σ => (g σ).bind fun d σ1 => if isTy T d = true then (gs σ1).bind fun ds σ2 => ofO (f d ds) σ2 else .stuck
def labsK : Kd → List Lab
  | .own => []
  | .bor R => R
  | .spn R => R
  | .exc R => R
def dCatT : D → D → Option D
  | .tup xs, .tup ys => if xs.length + ys.length ≤ sizeLine then some (.tup (xs ++ ys)) else none
  | _, _ => none
theorem VR.tupE {K : PySem.W.Frag} {cl : CE} {H : Hp} {lab : Labs} {v : V} {ds : List D} {j : Nat} (h : VR K cl H lab k (.tmp j) v (.tup ds)) : ∃ a vs fp, v = .ref a ∧ SqT K H a vs ∧ RpL K cl H vs ds fp ∧ ∀ b ∈ fp, (lab b = .tmp j) ∨ bw (labsK k) (lab b) := by
  cases k with
  | own =>
    obtain ⟨fp, r, nd, l⟩ := h
    cases r with
    | tup h r => exact ⟨_, _, _, rfl, h, r, fun b hb => .inl (l b hb)⟩
  | bor R =>
    obtain ⟨fp, r, l⟩ := h
    cases r with
    | tup h r => exact ⟨_, _, _, rfl, h, r, fun b hb => .inr (l b hb)⟩
  | spn R =>
    obtain ⟨a, vs, ds', fp, rfl, e, ha, r, la, l⟩ := h
    cases e
  | exc R => obtain ⟨fp, r, _⟩ := h; cases r
theorem ej_catT (ha : EJ X W Γx Γ n m1 a ga k) (hb : EJ X W Γx Γ (n + 1) m2 b gb k1) (ok : okK m2 (n + 1) k = true := by decide) : EJ X W Γx Γ n (m1 ++ m2) (.BinOp a .Add b pos) (eBin dCatT ga gb) (.bor (labsK k ++ labsK k1)) := by
  refine pe_imp (pe_op op_catA ha hb) fun σ H Q h => ?_
  obtain ⟨σD, lab, g0, s, po⟩ := h
  refine ⟨σD, lab, g0, s, po.seq' fun x σD1 v H1 lab1 s1 p1 r1 po1 => ?_⟩
  refine ⟨σD1, lab1, gok.up g0, s1, po1.seq (SubK.up _ _) (Nat.le_succ _) (SubK.nil _ _) (Nat.le_refl _) fun y σD2 w H2 lab2 s2 p2 r2 po2 => ?_⟩
  have r1 := VR.pres p2 r1 ok (by simp [keepL])
  obtain ⟨z, e, q⟩ := po2.done
  cases x with
  | tup xs => cases y with
    | tup ys =>
      simp only [dCatT] at e
      split at e
      · rename_i hz
        cases e
        obtain ⟨l, vs, f1, rfl, h1, l1, b1⟩ := r1.tupE
        obtain ⟨l', ws, f2, rfl, h2, l2, b2⟩ := r2.tupE
        have ra := l1.append l2
        have lab' : ∀ b ∈ f1 ++ f2, (∃ j, n ≤ j ∧ lab2 b = .tmp j) ∨ bw (labsK k ++ labsK k1) (lab2 b) := fun b hb => by
          rcases List.mem_append.mp hb with z | z
          · rcases b1 b z with e | e
            · exact .inl ⟨n, Nat.le_refl _, e⟩
            · exact .inr (e.elim .inl fun z => .inr (List.mem_append_left _ z))
          · rcases b2 b z with e | e
            · exact .inl ⟨n + 1, Nat.le_succ _, e⟩
            · exact .inr (e.elim .inl fun z => .inr (List.mem_append_right _ z))
        have P0 : Pres [] n H2 lab2 H2 (colF n lab2) := .colF
        refine ⟨l, l', vs, ws, rfl, rfl, h1, h2, by rw [l1.len, l2.len]; exact hz, fun e => ?_, fun _ e => ?_, fun _ _ p hp => ?_⟩
        · subst e
          refine q _ _ _ (s2.pres g0 P0) P0 ⟨f1 ++ f2, .tup h2 ra, fun b hb => bw_colF (lab' b hb)⟩
        · subst e
          refine q _ _ _ (s2.pres g0 P0) P0 ⟨f1 ++ f2, .tup h1 (by rw [List.append_nil] at ra; exact ra), fun b hb => bw_colF (lab' b hb)⟩
        · have P : Pres [] n H2 lab2 (upd H2 p (.tup (vs ++ ws))) (setL (colF n lab2) p (.tmp n)) := P0.trans (.alloc hp rfl) (SubK.refl _ _) (SubK.refl _ _)
          have ne : ∀ b ∈ f1 ++ f2, b ≠ p := fun b hb e => by
            obtain ⟨o, q, _⟩ := ra.alloc b hb
            rw [e, hp] at q; cases q
          refine q _ _ _ (s2.pres g0 P) P ⟨f1 ++ f2, .tup (.of upd_same) (ra.ext (TK.new hp) fun b hb => upd_ne (ne b hb)), fun b hb => ?_⟩
          show bw _ (if b = p then _ else _)
          rw [if_neg (ne b hb)]
          exact bw_colF (lab' b hb)
      · cases e
    | _ => cases e
  | _ => cases y <;> cases e
end
end Ow


namespace Ow
open PySem PySem.Spec PySem.SeqAt PyProof.Rows L2
section
variable {P : Program} {w : World} {K : PySem.W.Frag} {mg : Str → Option Value} {base : Heap}
/-- a def -/
theorem okF {x qual : Str} {params : Arguments} {body : List Stmt} {scope : Scope} {f : Addr} {fd : FuncData} {N ps : List Str} {lv np nl : Nat} {io m : List Nat} {own : Bool} {G : List D → SO} {Γ' : Ctx} (F : FunD K x qual params body scope [] [] f fd) (S : FnScope N ps scope)
    (hnp : ps.length = np) (hnl : N.length = nl) (hio : io.all (fun i => decide (i < np)) = true) (hpn : np ≤ nl) (hl : leC Γ' (ctxIo nl io) = true)
    (hb : ∀ (cdv : Value) (A : Around) (outer : List Env) (s : Shared) (H : Hp) (E : XK), Room lv (A.deeper (envOfC qual scope s.heap.objs.size f cdv)) →
      BJ (cxOf (L2N.CX P w) P w K mg base N qual scope f cdv A outer s H E) (wOf E) (scOf nl io own) (ctx0 np nl io []) Γ' 0 m body G) :
    FnOk P w K mg base (L2N.CX P w) (lv + 1) f fd ps (spD K (clM mg) np io [] own (fnD nl io G)) := by
  refine F.ok S (fun vs H Q E h => ?_) (fun cdv A outer s H vs Q E hr h => ⟨_, hb cdv A outer s H E hr, ?_⟩)
  · obtain ⟨ds, lab, h1, _⟩ := h
    rw [h1, hnp]
  · exact okD_read (X := cxOf (L2N.CX P w) P w K mg base N qual scope f cdv A outer s H E) (CEq.calm rfl) hnl hio hpn hl h

end
/-- p is handled here -/
structure HotX (X : Cx) (p : Addr × Obj) : Prop where
  c : X.calm = false
  h : X.pn.head? = some p
  o : L2H.Hot1 X.A p
section
variable {X : Cx} {W : WX} {Γx Γ : Ctx} {n lv np : Nat} {m : List Nat} {ks : List AK} {rs io xs : List Nat} {own : Bool} {Fd : List D → FR} {f : Addr} {fd : FuncData} {ps : List Str} {x : Str} {p pos : Pos} {e : Expr} {es : List Expr} {gs : List D → ER (List D)} {pp : Addr × Obj}
theorem HotX.suite {a : Addr} {oe : Obj} {pn : List (Addr × Obj)} (h1 : PXN.CtxN oe) (h2 : ∃ vs, oe.data = .fields vs) : HotX (X.suite a ((a, oe) :: pn)) (a, oe) := ⟨rfl, rfl, rfl, by
  obtain ⟨vs, h⟩ := h2
  exact ⟨vs, h, h1 vs h⟩⟩
theorem HotX.mem (h : HotX X pp) : pp ∈ X.pn := by
  have e := h.h
  cases hl : X.pn with
  | nil => rw [hl] at e; cases e
  | cons y l => rw [hl] at e; cases e; exact List.mem_cons_self
theorem takesN {X : Cx} : L2N.Takes X (fun _ _ _ _ => False) := fun _ _ ⟨_, _, _, _, _, _, _, _, _, _, _, _, _, _, _, _, z⟩ => z.elim
end
end Ow


namespace Ow
open PySem PySem.Spec PySem.SeqAt PyProof.Rows L2
def excAll : List Str := ["NoFraction", "NoSeries", "NoMachine", "Ring", "NoRoom", "NotEven", "NotLean", "Held", "Stopped", "TooFar", "NoGear", "NoDeed", "NoText", "NoSaying", "NoName", "NoBench", "TooMany"]
def excAll2 : List Str := "RollError" :: excAll
def exRel (c c2 : Str) : Bool := c == c2 || c2 == "RollError"
def excCB (K : PySem.W.Frag) (D : Addr) : Bool :=
  decide (PySem.W.findIn K (.ref D) "__getattribute__" = some (some (.builtin "BaseException.__getattribute__"))) && (decide (PySem.W.findIn K (.ref D) "__getattr__" = some none) && (decide (PySem.W.subIn K (.ref D) (.type "BaseException") = some true) && (PySem.W.hasDictIn K D && (decide (PySem.W.findIn K (.ref D) "__class__" = some (some (.builtin "object.__class__"))) &&
    (decide (PySem.W.specialIn K (.builtin "object.__class__") "__get__" = some (some (.builtin "getset_descriptor.__get__"))) && (decide (PySem.W.takesIn K (.builtin "object.__class__") = some true) && decide (PySem.W.mroIn K D (.type "object") = some true)))))))
theorem excCB_ok {K : PySem.W.Frag} {D : Addr} (h : excCB K D = true) : ExcC K D := by
  unfold excCB at h
  simp only [Bool.and_eq_true, decide_eq_true_eq] at h
  exact ⟨h.1, h.2.1, h.2.2.1, h.2.2.2.1, h.2.2.2.2.1, h.2.2.2.2.2.1, h.2.2.2.2.2.2.1, h.2.2.2.2.2.2.2⟩
/-- the written part's word on such a class -/
def oexB (K : PySem.W.Frag) (C : Addr) : Bool :=
  (match K.lookup C with
  | some ⟨.type "type", _, .cls cd, sl⟩ => (match cd.mro, sl.toList with
    | .ref D :: up, [_, _, _, _, some (.builtin nw), _] => decide (D = C) && (decide (nw = "ValueError.__new__") && (!cd.hasDel && (cd.hasDict && PySem.HandSPX.refsVE up)))
    | _, _ => false)
  | _ => false) && (decide (PySem.W.findIn K (.ref C) "__setattr__" = some (some (.builtin "object.__setattr__"))) && (decide (PySem.W.subIn K (.ref C) (.type "BaseException") = some true) && (decide (PySem.W.typeIn K (.ref C) = some (.type "type")) && PySem.W.keepIn K (.ref C))))
theorem oexB_ok {K : PySem.W.Frag} {C : Addr} (h : oexB K C = true) : OexC K C := by
  obtain ⟨shape, rest⟩ := Bool.and_eq_true_iff.mp h
  obtain ⟨s1, rest⟩ := Bool.and_eq_true_iff.mp rest
  obtain ⟨s2, rest⟩ := Bool.and_eq_true_iff.mp rest
  obtain ⟨s3, s4⟩ := Bool.and_eq_true_iff.mp rest
  refine ⟨?_, of_decide_eq_true s1, of_decide_eq_true s2, of_decide_eq_true s3, s4⟩
  revert shape
  match K.lookup C with
  | none => exact nofun
  | some ob =>
    intro shape
    split at shape
    case h_2 => cases shape
    case h_1 dd cd sl same =>
      cases same
      split at shape
      case h_2 => cases shape
      case h_1 D up k0 k1 k2 k3 nw k5 mro slots =>
        simp only [Bool.and_eq_true, decide_eq_true_eq, Bool.not_eq_true'] at shape
        obtain ⟨eD, enw, nodel, dict, tail⟩ := shape
        subst eD enw
        cases cd
        cases sl
        simp only at mro nodel dict slots
        subst mro nodel dict slots
        exact ⟨_, _, _, _, _, _, _, _, _, _, _, _, _, _, _, rfl, tail⟩
def raiseB (K : PySem.W.Frag) (C : Addr) : Bool := PySem.W.excIn K C He.veBase "ValueError.__new__" && (PySem.W.keepIn K (.ref C) && (decide (PySem.W.subIn K (.ref C) (.type "BaseException") = some true) && decide (PySem.W.typeIn K (.ref C) = some (.type "type"))))
def pairB (K : PySem.W.Frag) (c : Str) (C : Addr) (c2 : Str) : Bool := match PySem.W.nsIn K mainGlobals c2 with
  | some none => true
  | some (some (.ref C2)) => decide (PySem.W.exmOne K (.ref C) (.ref C2) = some (exRel c c2)) && decide (PySem.W.kitOne K (.ref C) (.ref C2) = some (exRel c c2))
  | _ => false
/-- .. by the field that its exceptions bear -/
def fldB (K : PySem.W.Frag) (C : Addr) : Option Str → Bool
  | none => raiseB K C
  | some f => oexB K C && decide (PySem.W.findIn K (.ref C) f = some none)
def exB (K : PySem.W.Frag) : Bool := excAll.all fun c => match PySem.W.nsIn K mainGlobals c with
  | some none => true
  | some (some (.ref C)) => excCB K C && (decide (PySem.W.kitOne K (.ref C) (.type "ValueError") = some true) && (fldB K C (pfOf c) && excAll2.all (pairB K c C)))
  | _ => false
/-- what is said -/
structure ExFx (K : PySem.W.Frag) (mg : Str → Option Value) : Prop where
  cls : ∀ {c : Str} {C : Addr}, c ∈ excAll → mg c = some (.ref C) → ExcC K C ∧ PySem.W.kitOne K (.ref C) (.type "ValueError") = some true
  rais : ∀ {c : Str} {C : Addr}, c ∈ excAll → pfOf c = none → mg c = some (.ref C) → PySem.W.excIn K C He.veBase "ValueError.__new__" = true ∧ PySem.W.keepIn K (.ref C) = true ∧ PySem.W.subIn K (.ref C) (.type "BaseException") = some true ∧ PySem.W.typeIn K (.ref C) = some (.type "type")
  fld : ∀ {c f : Str} {C : Addr}, c ∈ excAll → pfOf c = some f → mg c = some (.ref C) → OexC K C ∧ PySem.W.findIn K (.ref C) f = some none
  pair : ∀ {c c2 : Str} {C C2 : Addr}, c ∈ excAll → c2 ∈ excAll2 → mg c = some (.ref C) → mg c2 = some (.ref C2) → PySem.W.exmOne K (.ref C) (.ref C2) = some (exRel c c2) ∧ PySem.W.kitOne K (.ref C) (.ref C2) = some (exRel c c2)
theorem ns_ref {K : PySem.W.Frag} {h : Heap} {mg : Str → Option Value} (X : K.In h) (G : h.Ns mainGlobals mg) {c : Str} {C : Addr} (e : mg c = some (.ref C)) (b : match PySem.W.nsIn K mainGlobals c with
  | some none => True
  | some (some (.ref _)) => True
  | _ => False) : PySem.W.nsIn K mainGlobals c = some (some (.ref C)) := by
  cases q : PySem.W.nsIn K mainGlobals c with
  | none => rw [q] at b; exact b.elim
  | some o =>
    cases o with
    | none => rw [PySem.W.mg_none_of X G q] at e; cases e
    | some v => rw [PySem.W.mg_of X G q] at e; rw [Option.some.inj e]
theorem exB_ok {K : PySem.W.Frag} {h : Heap} {mg : Str → Option Value} (X : K.In h) (G : h.Ns mainGlobals mg) (b : exB K = true) : ExFx K mg := by
  have one : ∀ {c : Str} {C : Addr}, c ∈ excAll → mg c = some (.ref C) → excCB K C = true ∧ PySem.W.kitOne K (.ref C) (.type "ValueError") = some true ∧ fldB K C (pfOf c) = true ∧ excAll2.all (pairB K c C) = true := fun {c C} hc e => by
    have h1 := List.all_eq_true.mp b c hc
    have h2 : PySem.W.nsIn K mainGlobals c = some (some (.ref C)) := by
      refine ns_ref X G e ?_
      split at h1
      · trivial
      · trivial
      · cases h1
    rw [h2] at h1
    simp only [Bool.and_eq_true, decide_eq_true_eq] at h1
    exact h1
  refine ⟨fun hc e => ?_, fun {c C} hc hp e => ?_, fun {c f C} hc hp e => ?_, fun {c c2 C C2} hc hc2 e e2 => ?_⟩
  · obtain ⟨h1, h2, _⟩ := one hc e
    exact ⟨excCB_ok h1, h2⟩
  · obtain ⟨_, _, h3, _⟩ := one hc e
    rw [hp] at h3
    have h3 : raiseB K C = true := h3
    unfold raiseB at h3
    simp only [Bool.and_eq_true, decide_eq_true_eq] at h3
    exact ⟨h3.1, h3.2.1, h3.2.2.1, h3.2.2.2⟩
  · obtain ⟨_, _, h3, _⟩ := one hc e
    rw [hp] at h3
    obtain ⟨h4, h5⟩ := Bool.and_eq_true_iff.mp h3
    exact ⟨oexB_ok h4, of_decide_eq_true h5⟩
  · obtain ⟨_, _, _, h4⟩ := one hc e
    have h5 := List.all_eq_true.mp h4 c2 hc2
    unfold pairB at h5
    have h2 : PySem.W.nsIn K mainGlobals c2 = some (some (.ref C2)) := by
      refine ns_ref X G e2 ?_
      split at h5
      · trivial
      · trivial
      · cases h5
    rw [h2] at h5
    simp only [Bool.and_eq_true, decide_eq_true_eq] at h5
    exact h5
section
variable {K : PySem.W.Frag} {mg : Str → Option Value}
end
section
variable {X : Cx} {W : WX} {Z : SC} {Γx Γ Γ' : Ctx} {n : Nat} {m : List Nat} {p p2 pos pos2 : Pos} {a : Expr} {g : List D → ER D} {R : List Lab}
/-- raise c('m') -/
theorem sj_raiseX {c mm : Str} {C : Addr} {j : Nat} (F : ExFx X.K X.mg) (hc : X.calm = true) (tk : L2N.Takes X W) (gC : X.mg c = some (.ref C)) (hm : c ∈ excAll := by decide) (hp : pfOf c = none := by decide) (hg : Gl X c := by rfl) (hdb : (c == ("__debug__" : Str)) = false := by decide) (l : leC Γ Z.Γx = true := by decide) :
    SJ X W Z Γ Γ' n [] (.Raise (some (.Call (.Name c p) [.Constant (.str mm) j p2] [] pos)) none pos2) (sRaise c) := by
  obtain ⟨h1, h2, h3, h4⟩ := F.rais hm hp gC
  exact sj_raise hc tk (L2N.pmk_own PySem.F.excBase_ValueError h1 gC h2 (raises_own h3 h4) hg hdb) gC hp l
end
end Ow


namespace Ow
open PySem PySem.Spec PySem.SeqAt PyProof.Rows L2
theorem rpl_ints {K : PySem.W.Frag} {cl : CE} {H : Hp} : ∀ ns : List Int, RpL K cl H (ns.map V.int) (ns.map D.int) []
  | [] => .nil
  | n :: ns => .cons (.int n) (rpl_ints ns)
theorem sp_law {K : PySem.W.Frag} {ce : CE} {H : Hp} {a : Addr} {ns : List Int} {own : Bool} {Fd : List D → FR} (hO : Only H) (hS : SqL K H a (ns.map V.int)) (h : ∃ outs, Fd [.fzl (ns.map D.int)] = .ret (.bl true) outs) : spD K ce 1 [] [] own Fd [.ref a] H (fun v _ => v = .bl true) fun _ _ _ => False := by
  obtain ⟨outs, h⟩ := h
  have hF : FzL K H a (ns.map V.int) := by
    rcases hS with (hS | ⟨o, hS⟩) | hS
    · rcases hO a with z | ⟨o, xs, z⟩
      · rw [z] at hS; cases hS
      · rw [z] at hS; cases hS
    · exact .inl ⟨o, hS⟩
    · exact .inr hS
  refine ⟨[.fzl (ns.map D.int)], fun _ => .out, rfl, rfl, fun i v d h1 h2 => ?_, fun _ _ => .inl rfl, ?_⟩
  · cases i with
    | zero =>
      cases h1
      cases h2
      exact ⟨[], .lsf hF (rpl_ints ns), by simp⟩
    | succ i => simp at h1
  · rw [h]
    intro v H' lab' j _ _ r
    have e : VR K ce H' lab' (retK own) (.tmp j) v (.bl true) := r
    exact e.bl
/-- the law's own end: what the head tells, the defs, the mathematics -/
theorem walk_ow {l : PySem.W.OpenLaw} {n k : Nat} {q : Program} {loose : List Str} {XP : (Str → Option Value) → Heap → Prop} {YP : World → Heap → Prop} {d : DefRec} {x : Str} {own : Bool} {Fd : List D → FR}
    (hn : l.most = some n) (hn2 : n ≤ sizeLine) (hdf : d.params.defaults = []) (hr : Room k callerA)
    (F : ∀ (w : World) (mg : Str → Option Value) (fa : Addr) (h : Heap), YP w h → h.Ns mainGlobals mg → mg d.name = some (.ref fa) →
      ∃ (K : PySem.W.Frag) (fd : FuncData), K.In h ∧ (∀ (s : Shared) (u : Value), BindsTo s fd ⟨[u], []⟩ [(x, u)]) ∧
        ∀ base : Heap, K.In base → base.Ns mainGlobals mg → FnOk l.prog w K mg base (L2N.CX l.prog w) k fa fd [x] (spD K (clM mg) 1 [] [] own Fd))
    (law : ∀ ns : List Int, ns.length ≤ n → (∀ z ∈ ns, Builtin.Int.intBits z ≤ 1048576) → ∃ outs, Fd [.fzl (ns.map D.int)] = .ret (.bl true) outs) :
    PySem.W.WalkO q loose XP YP l.row.toRowW d [] (fun f vs => PySem.call f vs) :=
  Att.attach_callB hn hdf fun w s₀ s₁ mg mb fa o pm cd doc a vs ns G Y _ _ _ hmg hobj hints hlen hbits hg => by
    obtain ⟨K, fd, KX, hb, hF⟩ := F w mg fa _ Y G.T.g hmg
    refine law_call KX G.T.g G.T.b G.T.builtins G.T.nolimit hg hobj hints (Nat.le_trans hlen hn2) hr hF hb (fun H hO hS => sp_law hO hS (law ns hlen hbits)) ?_
    rintro H e s' ⟨_, _, _, _, _, _, _, _, _, _, _, _, z⟩
    exact z.elim
end Ow


namespace Ow
open PySem PySem.Spec PySem.SeqAt PyProof.Rows L2
theorem hu64 {k : Nat} {A : Around} (h : Room k A) : A.units + 64 < cLine := h.units
/-- what is told of the module -/
structure Fax (fa : List He.Fa) (fn : List He.DefD) (K : PySem.W.Frag) (mg : Str → Option Value) : Prop where
  s : He.SaysD fa fn K
  x : ExFx K mg
  glo : ∀ (i : Nat) {x : Str}, fa[i]? = some (.glo x) → mg x = some (.ref (He.ga K x))
  free : ∀ (i : Nat) {x : Str}, fa[i]? = some (.free x) → mg x = none
/-- a def, by its name -/
structure Fnc (P : Program) (w : World) (K : PySem.W.Frag) (mg : Str → Option Value) (base : Heap) (x : Str) (lv np : Nat) (io : List Nat) (own : Bool) (Fd : List D → FR) : Prop where
  ex : ∃ f fd ps, FnOk P w K mg base (L2N.CX P w) lv f fd ps (spD K (clM mg) np io [] own Fd) ∧ mg x = some (.ref f) ∧ PySem.W.keepIn K (.ref f) = true ∧ Binds K fd ps []
section
variable {X : Cx} {W : WX} {Z : SC} {Γx Γ Γ' Γ1 Γ2 : Ctx} {n lv np : Nat} {m m1 m2 : List Nat} {ks : List AK} {rs io xs : List Nat} {own : Bool} {Fd : List D → FR} {x : Str} {p pos : Pos} {e : Expr} {es : List Expr} {gs : List D → ER (List D)} {pp : Addr × Obj}
theorem ej_callC (F : Fnc X.prog X.w X.K X.mg X.base x lv np io own Fd) (hc : X.calm = true) (hr : Room lv X.A) (tk : L2N.Takes X W)
    (ha : AJ X W Γx Γ n m (e :: es) gs ks) (c : CallOk Γ Γx n np io [] ks rs) (hg : Gl X x := by rfl) (hdb : (x == ("__debug__" : Str)) = false := by decide) (he : starEach (e :: es) X.env = (false, eval e X.env) :: starEach es X.env := by rfl) (hpl : (backTo pos (starEach es X.env)).any (·.1) = false := by rfl) :
    EJ X W Γx Γ n (m ++ rs) (.Call (.Name x p) (e :: es) [] pos) (eCall Fd rs gs) (callK own ks) := by
  obtain ⟨f, fd, ps, h1, h2, h3, h4⟩ := F.ex
  exact ej_call h1 hc hr h2 h3 h4 tk ha c hg hdb he hpl
theorem sj_pre {st : Stmt} {G : List D → SO} (h : SJ X W Z Γ1 Γ2 n m st G) (l : leC Γ Γ1 = true := by decide) (g : gok Γ1 n = true := by decide) : SJ X W Z Γ Γ2 n m st G := ps_imp h fun E σ H hh => by
  obtain ⟨σD, lab, fx, g0, s, po⟩ := hh
  exact ⟨σD, lab, fx, g, ⟨s.s.weak l, s.f⟩, po⟩
/-- a, b, .. = e -/
def sUnp (T : Tg) (g : List D → ER D) : List D → SO := sOf g fun d σ => match bindT T d σ with
  | some σ1 => .nxt σ1
  | none => .stuck
end
section
variable {P : Program} {w : World} {K : PySem.W.Frag} {mg : Str → Option Value} {base : Heap}
/-- a def by its datum -/
theorem fnc_of {fa : List He.Fa} {fn : List He.DefD} (c : Fax fa fn K mg) (i j : Nat) {x : Str} {params : Arguments} {body : List Stmt} {scope : Scope} {N ps : List Str} {lv np nl : Nat} {io m : List Nat} {own : Bool} {G : List D → SO} {Γ' : Ctx}
    (hd : fn[i]? = some ⟨(x, none), x, x, params, body, scope, [], []⟩) (hj : fa[j]? = some (.glo x)) (S : FnScope N ps scope) (hnp : ps.length = np) (hnl : N.length = nl) (hio : io.all (fun i => decide (i < np)) = true) (hpn : np ≤ nl) (hl : leC Γ' (ctxIo nl io) = true)
    (hbd : ∀ (kV doc pm : Value) (an : Option Addr) (cdv ct : Value) (us : List Value), us.length = ps.length → bindArgs (PySem.W.fnOf x x params body scope .none kV doc pm an cdv ct) ⟨us, []⟩ = pure (ps.zip us))
    (hb : ∀ (cdv : Value) (A : Around) (outer : List Env) (s : Shared) (H : Hp) (E : XK), Room lv (A.deeper (envOfC x scope s.heap.objs.size (He.fAd K (x, none)) cdv)) →
      BJ (cxOf (L2N.CX P w) P w K mg base N x scope (He.fAd K (x, none)) cdv A outer s H E) (wOf E) (scOf nl io own) (ctx0 np nl io []) Γ' 0 m body G) :
    Fnc P w K mg base x (lv + 1) np io own (fnD nl io G) := by
  obtain ⟨fd, F⟩ := c.s.def_ i hd
  exact ⟨He.fAd K (x, none), fd, ps, okF F S hnp hnl hio hpn hl hb, c.glo j hj, F.kp, FunD.bindsN F hbd⟩
end
section
variable {P : Program} {w : World} {K : PySem.W.Frag} {mg : Str → Option Value}
/-- the law's def -/
theorem law_of {fa : List He.Fa} {fn : List He.DefD} (c : Fax fa fn K mg) (i j : Nat) {x y : Str} {params : Arguments} {body : List Stmt} {scope : Scope} {N : List Str} {lv nl : Nat} {m : List Nat} {own : Bool} {G : List D → SO} {Γ' : Ctx} {f : Addr} (hf : mg x = some (.ref f))
    (hd : fn[i]? = some ⟨(x, none), x, x, params, body, scope, [], []⟩) (hj : fa[j]? = some (.glo x)) (S : FnScope N [y] scope) (hnl : N.length = nl) (hpn : 1 ≤ nl) (hl : leC Γ' (ctxIo nl []) = true)
    (hbd : ∀ (kV doc pm : Value) (an : Option Addr) (cdv ct : Value) (us : List Value), us.length = [y].length → bindArgs (PySem.W.fnOf x x params body scope .none kV doc pm an cdv ct) ⟨us, []⟩ = pure ([y].zip us))
    (hb : ∀ (base : Heap) (cdv : Value) (A : Around) (outer : List Env) (s : Shared) (H : Hp) (E : XK), Room lv (A.deeper (envOfC x scope s.heap.objs.size (He.fAd K (x, none)) cdv)) →
      BJ (cxOf (L2N.CX P w) P w K mg base N x scope (He.fAd K (x, none)) cdv A outer s H E) (wOf E) (scOf nl [] own) (ctx0 1 nl [] []) Γ' 0 m body G) :
    ∃ fd : FuncData, (∀ (s : Shared) (u : Value), BindsTo s fd ⟨[u], []⟩ [(y, u)]) ∧ ∀ base : Heap, FnOk P w K mg base (L2N.CX P w) (lv + 1) f fd [y] (spD K (clM mg) 1 [] [] own (fnD nl [] G)) := by
  obtain ⟨fd, F⟩ := c.s.def_ i hd
  have e := hf.symm.trans (c.glo j hj)
  cases e
  exact ⟨fd, fun s u => FunD.bindsA F hbd s [u] rfl, fun base => okF F S rfl hnl (by decide) hpn hl (hb base)⟩
end
/-- what a def's body may let out; that it lets pass -/
theorem takes_c {P : Program} {w : World} {K : PySem.W.Frag} {mg : Str → Option Value} {base : Heap} {N : List Str} {q : Str} {sc : Scope} {f : Addr} {cdv : Value} {A : Around} {outer : List Env} {s : Shared} {H : Hp} {E : XK} :
    L2N.Takes (cxOf (L2N.CX P w) P w K mg base N q sc f cdv A outer s H E) (wOf E) := L2N.takes_of rfl rfl rfl rfl
theorem passes_c {P : Program} {w : World} {K : PySem.W.Frag} {mg : Str → Option Value} {base : Heap} {N : List Str} {q : Str} {sc : Scope} {f : Addr} {cdv : Value} {A : Around} {outer : List Env} {s : Shared} {H : Hp} {E : XK} :
    PassesOwn (model P w) (cxOf (L2N.CX P w) P w K mg base N q sc f cdv A outer s H E).A (cxOf (L2N.CX P w) P w K mg base N q sc f cdv A outer s H E).env (cxOf (L2N.CX P w) P w K mg base N q sc f cdv A outer s H E).xe := passes_of (X := cxOf (L2N.CX P w) P w K mg base N q sc f cdv A outer s H E) rfl
end Ow
namespace Ow
open PySem PySem.Spec PySem.SeqAt PyProof.Rows L2
end Ow


namespace Ow
open PySem PySem.Spec PyProof.Rows L2
def wipeC (Γ : Ctx) : List Nat → Ctx
  | [] => Γ
  | v :: vs => (wipeC Γ vs).set v none
theorem wipeC_at {Γ : Ctx} {i : Nat} {k : Kd} : ∀ {vs : List Nat}, (wipeC Γ vs)[i]? = some (some k) → Γ[i]? = some (some k) ∧ i ∉ vs
  | [], h => ⟨h, by simp⟩
  | v :: vs, h => by
    unfold wipeC at h
    by_cases hi : v = i
    · subst hi
      by_cases hv : v < (wipeC Γ vs).length
      · rw [List.getElem?_set_self hv] at h; cases h
      · rw [List.getElem?_eq_none (by simpa using hv)] at h; cases h
    · rw [List.getElem?_set_ne hi] at h
      obtain ⟨h1, h2⟩ := wipeC_at h
      exact ⟨h1, by simp only [List.mem_cons, not_or]; exact ⟨fun e => hi e.symm, h2⟩⟩
theorem wipeC_out {Γ : Ctx} {i : Nat} : ∀ {vs : List Nat}, i ∉ vs → (wipeC Γ vs)[i]? = Γ[i]?
  | [], _ => rfl
  | v :: vs, h => by
    simp only [List.mem_cons, not_or] at h
    unfold wipeC
    rw [List.getElem?_set_ne (fun e => h.1 e.symm)]
    exact wipeC_out h.2
theorem wipe_get {σ : St} {i : Nat} : ∀ {vs : List Nat}, i ∉ vs → (wipe σ vs)[i]? = σ[i]?
  | [], _ => rfl
  | v :: vs, h => by
    simp only [List.mem_cons, not_or] at h
    unfold wipe
    rw [List.getElem?_set_ne (fun e => h.1 e.symm)]
    exact wipe_get h.2
theorem wipe_in {σ : St} {i : Nat} : ∀ {vs : List Nat}, i ∈ vs → i < σ.length → (wipe σ vs)[i]? = some none
  | [], h, _ => by simp at h
  | v :: vs, h, hl => by
    unfold wipe
    by_cases e : v = i
    · subst e; rw [List.getElem?_set_self (by rw [wipe_length]; exact hl)]
    · rw [List.getElem?_set_ne e]
      exact wipe_in ((List.mem_cons.mp h).resolve_left fun z => e z.symm) hl
theorem wipe_eq {σ σ' : St} {vs : List Nat} (hl : σ'.length = σ.length) (h : ∀ i, i ∉ vs → σ'[i]? = σ[i]?) : wipe σ' vs = wipe σ vs := by
  refine List.ext_getElem? fun i => ?_
  by_cases hi : i ∈ vs
  · by_cases z : i < σ.length
    · rw [wipe_in hi z, wipe_in hi (by omega)]
    · rw [List.getElem?_eq_none (by rw [wipe_length]; omega), List.getElem?_eq_none (by rw [wipe_length]; omega)]
  · rw [wipe_get hi, wipe_get hi, h i hi]
theorem wipe_wipe {σ : St} {vs : List Nat} : wipe (wipe σ vs) vs = wipe σ vs := wipe_eq (wipe_length _ _) fun i hi => wipe_get hi
section
variable {X X' : Cx} {W : WX} {Γx Γ Γ' : Ctx} {n : Nat} {m m1 m2 mt me : List Nat} {σ : St} {H : Hp} {lab : Labs} {σD : List D} {pos : Pos} {R R2 : List Lab} {fx : Nat → V} {io vs : List Nat}
theorem SR.wipe (s : SR X Γ σ H lab σD) : SR X (wipeC Γ vs) (wipe σ vs) H lab σD := ⟨by rw [wipe_length]; exact s.l1, s.l2, fun i k e => by
  obtain ⟨e1, ne⟩ := wipeC_at e
  obtain ⟨v, d, a, b, c⟩ := s.at_ i k e1
  exact ⟨v, d, (wipe_get ne).trans a, b, c⟩⟩
theorem gok.wipe (g : gok Γ n = true) : gok (wipeC Γ vs) n = true := List.all_eq_true.mpr fun o ho => by
  obtain ⟨i, hi⟩ := List.mem_iff_getElem?.mp ho
  cases o with
  | none => rfl
  | some k => exact gok.at_ g (wipeC_at hi).1
/-- targets: what else stays -/
theorem puts_ok' : ∀ (is : List Nat) {vs : List V} {ds : List D} {Γ : Ctx} {σ : St} {lab : Labs} {σD σD' : List D} {R : List Lab} {Q : St → Hp → Prop}, SRx X io fx Γ σ H lab σD → gok Γ n = true → R.all (keepL [] n) = true → (∀ i ∈ is, i < X.N.length ∧ i ∉ io) → vs.length = ds.length →
    (∀ (j : Nat) v d, vs[j]? = some v → ds[j]? = some d → VR X.K (clX X) H lab (.bor R) (.tmp n) v d) → setMany is ds σD = some σD' →
    (∀ σ' lab', SRx X io fx (putsC Γ is R) σ' H lab' σD' → gok (putsC Γ is R) n = true → Pres is n H lab H lab' → σ'.length = σ.length → (∀ i, i ∉ is → σ'[i]? = σ[i]?) → Q σ' H) → tgs is vs σ H Q
  | [], vs, ds, Γ, σ, lab, σD, σD', R, Q, s, g, ok, hi, hl, hv, e, k => by
    cases ds with
    | nil =>
      cases vs with
      | nil => cases e; exact ⟨rfl, k σ lab s g (.refl _ _ _ _) rfl fun _ _ => rfl⟩
      | cons v vs => cases hl
    | cons d ds => cases e
  | i :: is, vs, ds, Γ, σ, lab, σD, σD', R, Q, s, g, ok, hi, hl, hv, e, k => by
    cases ds with
    | nil => cases e
    | cons d ds =>
      cases vs with
      | nil => cases hl
      | cons v vs =>
        have r0 := hv 0 v d rfl rfl
        obtain ⟨h1, h2⟩ := hi i List.mem_cons_self
        refine ⟨v, vs, rfl, puts_ok' is (R := dropL i R) (s.put g h1 h2 r0 ok) (gok_put g ok) (dropL_ok ok) (fun j hj => hi j (List.mem_cons_of_mem _ hj)) (by simpa using hl) (fun j w x a b => ?_) e fun σ' lab' s' g' p l' q' => ?_⟩
        · exact (hv (j + 1) w x (by simpa using a) (by simpa using b)).bor_put ok
        · refine k σ' lab' s' g' (Pres.trans (m1 := [i]) (n1 := n) (m2 := is) (n2 := n) .put p (.of (fun q hq => by simp at hq; simp [hq]) (Nat.le_refl _)) (.of (fun q hq => List.mem_cons_of_mem _ hq) (Nat.le_refl _))) (by rw [l', List.length_set]) fun j hj => ?_
          simp only [List.mem_cons, not_or] at hj
          rw [q' j hj.2, List.getElem?_set_ne (fun z => hj.1 z.symm)]
theorem tg_ok' {T : Tg} {v : V} {d : D} {σD' : List D} {Q : St → Hp → Prop} (s : SRx X io fx Γ σ H lab σD) (g : gok Γ n = true) (ok : R.all (keepL [] n) = true) (hi : ∀ i ∈ T.slots, i < X.N.length ∧ i ∉ io) (r : VR X.K (clX X) H lab (.bor R) (.tmp n) v d) (e : bindT T d σD = some σD')
    (k : ∀ σ' lab', SRx X io fx (tgC Γ T R) σ' H lab' σD' → gok (tgC Γ T R) n = true → Pres T.slots n H lab H lab' → σ'.length = σ.length → (∀ i, i ∉ T.slots → σ'[i]? = σ[i]?) → Q σ' H) : tgR X.K T v σ H Q := by
  cases T with
  | nm i =>
    cases e
    obtain ⟨h1, h2⟩ := hi i List.mem_cons_self
    exact k _ _ (s.put g h1 h2 r ok) (gok_put g ok) .put (by rw [List.length_set]) fun j hj => List.getElem?_set_ne fun z => hj (by rw [← z]; exact List.mem_cons_self)
  | tp is =>
    cases d with
    | tup ds =>
      obtain ⟨fp, rp, l⟩ := r
      cases rp with
      | tup h rl =>
        rename_i a vs
        have hlen : ∀ (is : List Nat) (ds σ0 σ1 : List D), setMany is ds σ0 = some σ1 → ds.length = is.length := by
          intro is
          induction is with
          | nil => intro ds σ0 σ1 e; cases ds with | nil => rfl | cons _ _ => cases e
          | cons i is ih => intro ds σ0 σ1 e; cases ds with | nil => cases e | cons d ds => simp [ih ds _ _ e]
        refine ⟨a, vs, rfl, h, by rw [rl.len, hlen is ds _ _ e], puts_ok' is s g ok hi rl.len (fun j v x a b => ?_) e k⟩
        obtain ⟨w, f, e1, e2, e3⟩ := rl.get b
        rw [a] at e1
        cases e1
        exact ⟨f, e2, fun y hy => l y (e3.subset hy)⟩
    | _ => cases e
abbrev WF : WX := fun _ _ _ _ => False
theorem rdE_like (L : Like X X') {k : Kd} {g : List D → ER D} (hn : noX Γ = true) (hk : ∀ R, k ≠ .exc R) {Q : VK} (h : rdE X WF [] Γ n m k g σ H Q) : rdE X' WF [] Γ n m k g σ H Q := by
  obtain ⟨σD, lab, g0, s, po⟩ := h
  refine ⟨σD, lab, g0, s.like L hn, ?_⟩
  cases e : g σD with
  | stuck => rw [e] at po; exact po
  | ok a σ1 =>
    rw [e] at po
    exact fun b H' lab' s' p' r' => po b H' lab' (s'.like L.symm hn) p' (L.symm.vr r' hk)
  | exc c p σ1 =>
    rw [e] at po
    exact fun H' lab' C dd hc s' p' py => po H' lab' C dd (by rw [← L.mg]; exact hc) (s'.like L.symm rfl) p' (py.like L.symm)
theorem rdT_like (L : Like X X') {g : List D → ER Bool} (hn : noX Γ = true) {Q : Bool → Hp → Prop} (h : rdT X WF [] Γ n m g σ H Q) : rdT X' WF [] Γ n m g σ H Q := by
  obtain ⟨σD, lab, g0, s, po⟩ := h
  refine ⟨σD, lab, g0, s.like L hn, ?_⟩
  cases e : g σD with
  | stuck => rw [e] at po; exact po
  | ok a σ1 =>
    rw [e] at po
    exact fun b H' lab' s' p' r' => po b H' lab' (s'.like L.symm hn) p' r'
  | exc c p σ1 =>
    rw [e] at po
    exact fun H' lab' C dd hc s' p' py => po H' lab' C dd (by rw [← L.mg]; exact hc) (s'.like L.symm rfl) p' (py.like L.symm)
/-- a clause's tests -/
def PTsJ (X : Cx) (Γ : Ctx) (n : Nat) (m : List Nat) (ifs : List Expr) (g : List D → ER Bool) : Prop := PTs X ifs (rdT X WF [] Γ n m g)
def tYesD : List D → ER Bool := fun σ => .ok true σ
theorem ptj_nil : PTsJ X Γ n [] [] tYesD := ⟨fun pins s σ H Q I h => pts_nil.run pins s σ H Q I (by
  obtain ⟨σD, lab, g0, sr, po⟩ := h
  exact po true H lab sr (.refl _ _ _ _) rfl)⟩
theorem ptj_one {c : Expr} {g : List D → ER Bool} (h : TJ X WF [] Γ n m c g) : PTsJ X Γ n m [c] g := pts_one h
def lcL (T : Tg) (gt : List D → ER Bool) (ge : List D → ER D) : List D → List D → List D → ER (List D)
  | [], acc, σ => .ok acc σ
  | d :: ds, acc, σ => match bindT T d σ with
    | none => .stuck
    | some σ1 => match gt σ1 with
      | .ok b σ2 => if b = true then (match ge σ2 with
          | .ok v σ3 => lcL T gt ge ds (acc ++ [v]) σ3
          | _ => .stuck) else lcL T gt ge ds acc σ2
      | _ => .stuck
def restV (vr : List Nat) (σ1 σ2 : List D) : List D := vr.foldr (fun i s => s.set i (σ1.getD i .non)) σ2
def eLc (T : Tg) (vr : List Nat) (gi : List D → ER (List D)) (gt : List D → ER Bool) (ge : List D → ER D) : List D → ER D := fun σ => (gi σ).bind fun ds σ1 =>
  if ds.length ≤ sizeLine ∧ vr.all (fun i => (σ1.getD i .non).flat) = true then (match lcL T gt ge ds [] σ1 with
    | .ok acc σ2 => .ok (.lst acc) (restV vr σ1 σ2)
    | _ => .stuck) else .stuck
theorem restV_len {σ1 σ2 : List D} : ∀ {vr : List Nat}, (restV vr σ1 σ2).length = σ2.length
  | [] => rfl
  | v :: vr => by
    show ((restV vr σ1 σ2).set v _).length = _
    rw [List.length_set]; exact restV_len
theorem restV_out {σ1 σ2 : List D} {i : Nat} : ∀ {vr : List Nat}, i ∉ vr → (restV vr σ1 σ2)[i]? = σ2[i]?
  | [], _ => rfl
  | v :: vr, h => by
    simp only [List.mem_cons, not_or] at h
    show ((restV vr σ1 σ2).set v _)[i]? = _
    rw [List.getElem?_set_ne (fun z => h.1 z.symm)]; exact restV_out h.2
theorem restV_in {σ1 σ2 : List D} {i : Nat} : ∀ {vr : List Nat}, i ∈ vr → i < σ2.length → (restV vr σ1 σ2)[i]? = some (σ1.getD i .non)
  | [], h, _ => by simp at h
  | v :: vr, h, hl => by
    show ((restV vr σ1 σ2).set v _)[i]? = _
    by_cases e : v = i
    · subst e; rw [List.getElem?_set_self (by rw [restV_len]; exact hl)]
    · rw [List.getElem?_set_ne e]
      exact restV_in ((List.mem_cons.mp h).resolve_left fun z => e z.symm) hl
/-- the block's own names: dead outside, or flat and set back -/
def vrOk (Γ : Ctx) (vs vr : List Nat) : Bool := (vr.all (vs.contains ·)) && vs.all fun i => match Γ[i]? with
  | some (some .own) => vr.contains i
  | some (some _) => false
  | _ => !vr.contains i
/-- what the list's items are held as, the list -/
def lstK : Kd → Kd
  | .own => .own
  | .bor R => .spn R
  | .spn R => .spn R
  | .exc R => .spn R
def okEl : Kd → Bool
  | .own => true
  | .bor _ => true
  | _ => false
theorem VR.app {K : PySem.W.Frag} {cl : CE} {k : Kd} {a : Addr} {ds : List D} {v : V} {d : D} (hk : okEl k = true) (h : VR K cl H lab (lstK k) (.tmp (n + 1)) (.ref a) (.lst ds)) (r : VR K cl H lab k (.tmp (n + 2)) v d) (ok : okK [] (n + 1) k = true) :
    ∃ acc, H a = some (.lst acc) ∧ acc.length = ds.length ∧ lab a = .tmp (n + 1) ∧ ∃ lab', (∀ m, Pres m (n + 1) H lab (upd H a (.lst (acc ++ [v]))) lab') ∧ VR K cl (upd H a (.lst (acc ++ [v]))) lab' (lstK k) (.tmp (n + 1)) (.ref a) (.lst (ds ++ [d])) := by
  cases k with
  | own =>
    obtain ⟨fp, rp, nd, l⟩ := h
    cases rp with
    | lst ha rl =>
      rename_i acc fp
      obtain ⟨fq, rq, nq, lq⟩ := r
      rw [List.nodup_cons] at nd
      have la : lab a = .tmp (n + 1) := l a List.mem_cons_self
      have dj : ∀ b ∈ fq, b ∉ a :: fp := fun b hb z => by
        have e1 := lq b hb
        have e2 := l b z
        rw [e1] at e2
        cases e2
      have da : a ∉ fq := fun z => dj a z List.mem_cons_self
      refine ⟨acc, ha, rl.len, la, fun b => if lab b = .tmp (n + 2) then .tmp (n + 1) else lab b, fun m => ?_, ?_⟩
      · refine Pres.trans (m1 := m) (n1 := n + 1) (m2 := m) (n2 := n + 1) (Pres.mut (m := m) (n := n + 1) ha True.intro (by rw [la]; simp [keepL])) (.relab (fun b hb => ?_) fun b hb => ?_) (SubK.refl _ _) (SubK.refl _ _)
        · exact if_neg fun z => by rw [z] at hb; simp [keepL] at hb
        · by_cases z : lab b = .tmp (n + 2)
          · rw [if_pos z] at hb; cases hb
          · rw [if_neg z]
      · have r1 := rl.disj (o := .lst (acc ++ [v])) (fun z => nd.1 z) ⟨_, ha, True.intro⟩
        have r2 := rq.disj (o := .lst (acc ++ [v])) da ⟨_, ha, True.intro⟩
        refine ⟨a :: (fp ++ fq), .lst (upd_same ..) (r1.append (RpL.one r2)), ?_, fun b hb => ?_⟩
        · rw [List.nodup_cons, List.nodup_append, List.mem_append]
          exact ⟨fun z => z.elim nd.1 da, nd.2, nq, fun x hx y hy e => dj y hy (e ▸ List.mem_cons_of_mem _ hx)⟩
        · dsimp only
          by_cases z : lab b = .tmp (n + 2)
          · rw [if_pos z]
          · rw [if_neg z]
            rcases List.mem_cons.mp hb with q | q
            · rw [q]; exact la
            · rcases List.mem_append.mp q with q | q
              · exact l b (List.mem_cons_of_mem _ q)
              · exact absurd (lq b q) z
  | bor R =>
    obtain ⟨a', acc, ds', fp, ea, ed, ha, rl, la, l⟩ := h
    cases ea; cases ed
    obtain ⟨fq, rq, lq⟩ := r
    have da : ∀ b ∈ fq, b ≠ a := fun b hb z => by
      have e1 := lq b hb
      rw [z, la] at e1
      rcases e1 with e1 | e1
      · cases e1
      · have := List.all_eq_true.mp ok _ e1
        simp [keepL] at this
    refine ⟨acc, ha, rl.len, la, lab, fun m => .mut ha True.intro (by rw [la]; simp [keepL]), ?_⟩
    have r1 := rl.disj (o := .lst (acc ++ [v])) (fun z => (l a z).1 rfl) ⟨_, ha, True.intro⟩
    have r2 := rq.disj (o := .lst (acc ++ [v])) (fun z => da a z rfl) ⟨_, ha, True.intro⟩
    exact ⟨a, _, _, fp ++ fq, rfl, rfl, upd_same .., r1.append (RpL.one r2), la, fun b hb => (List.mem_append.mp hb).elim (l b) fun q => ⟨da b q, lq b q⟩⟩
  | _ => cases hk
theorem okK_lst {k : Kd} (h : okK m n k = true) : okK m n (lstK k) = true := by cases k <;> exact h
theorem VR.newL {K : PySem.W.Frag} {cl : CE} {k : Kd} {a : Addr} {t : Lab} (h : H a = some (.lst [])) (l : lab a = t) : VR K cl H lab (lstK k) t (.ref a) (.lst []) := by
  cases k with
  | own => exact ⟨[a], .lst h .nil, by simp, fun b hb => by rw [List.mem_singleton.mp hb]; exact l⟩
  | _ => exact ⟨a, [], [], [], rfl, rfl, h, .nil, l, by simp⟩
theorem VR.colT' {K : PySem.W.Frag} {cl : CE} {k : Kd} {v : V} {d : D} (h : VR K cl H lab (lstK k) (.tmp (n + 1)) v d) (ok : okK [] n k = true) : VR K cl H (colT n lab) (lstK k) (.tmp n) v d := by
  have kb : ∀ {R : List Lab} {b : Addr}, R.all (keepL [] n) = true → bw R (lab b) → bw R (colT n lab b) := fun hR hb => by
    rw [colT_keep (m := []) (bw_keep hR hb)]; exact hb
  have e1 : ∀ {b : Addr}, lab b = .tmp (n + 1) → colT n lab b = .tmp n := fun e => colT_tmp e (by omega)
  cases k with
  | own =>
    obtain ⟨fp, r, nd, l⟩ := h
    exact ⟨fp, r, nd, fun a ha => e1 (l a ha)⟩
  | bor R =>
    obtain ⟨a, vs, ds, fp, rfl, rfl, ha, r, la, l⟩ := h
    exact ⟨a, vs, ds, fp, rfl, rfl, ha, r, e1 la, fun b hb => ⟨(l b hb).1, kb ok (l b hb).2⟩⟩
  | spn R =>
    obtain ⟨a, vs, ds, fp, rfl, rfl, ha, r, la, l⟩ := h
    exact ⟨a, vs, ds, fp, rfl, rfl, ha, r, e1 la, fun b hb => ⟨(l b hb).1, kb ok (l b hb).2⟩⟩
  | exc R =>
    obtain ⟨a, vs, ds, fp, rfl, rfl, ha, r, la, l⟩ := h
    exact ⟨a, vs, ds, fp, rfl, rfl, ha, r, e1 la, fun b hb => ⟨(l b hb).1, kb ok (l b hb).2⟩⟩
/-- the reading of a comprehension -/
theorem lc_imp {T : Tg} {vr : List Nat} {gi : List D → ER (List D)} {gt : List D → ER Bool} {ge : List D → ER D} {k : Kd} {Q : VK} (hk : okEl k = true) (hv : vrOk Γ vs vr = true) (hT : T.slots.all (fun i => vs.contains i && decide (i < X.N.length)) = true) (hR : R.all (keepL (T.slots ++ (mt ++ me)) (n + 1)) = true)
    (ok : okK (T.slots ++ (mt ++ me)) n k = true) (hle : leC Γ' (wipeC Γ vs) = true) (hle2 : leC (tgC (wipeC Γ vs) T R) Γ' = true) (gb : gok Γ' (n + 2) = true) (h : rdE X W Γx Γ n (m1 ++ (T.slots ++ (mt ++ me))) (lstK k) (eLc T vr gi gt ge) σ H Q) :
    tLc (rdI X W Γx Γ n m1 R gi) (tgR X.K T) (rdT X WF [] Γ' (n + 2) mt gt) (rdE X WF [] Γ' (n + 2) me k ge) vs σ H Q := by
  obtain ⟨σD, lab, g0, s, po⟩ := h
  refine ⟨σD, lab, g0, s, po.seq' fun ds σ1 J H1 lab1 s1 p1 it po1 => ?_⟩
  have it : IterOk X n R J ds H1 lab1 := it
  have hc : ds.length ≤ sizeLine ∧ vr.all (fun i => (σ1.getD i .non).flat) = true := by
    refine Decidable.byContradiction fun hc => ?_
    rw [if_neg hc] at po1; exact po1.elim
  rw [if_pos hc] at po1
  cases e : lcL T gt ge ds [] σ1 with
  | stuck => rw [e] at po1; exact po1.elim
  | exc _ _ _ => rw [e] at po1; exact po1.elim
  | ok accF σF =>
  rw [e] at po1
  intro A hA
  have sub1 : SubK (T.slots ++ (mt ++ me)) (n + 1) T.slots (n + 2) := (SubK.left _ _ _).trans (SubK.up _ _)
  have subt : SubK (T.slots ++ (mt ++ me)) (n + 1) mt (n + 2) := ((SubK.right _ _ _).trans (SubK.left _ _ _)).trans (SubK.up _ _)
  have sube : SubK (T.slots ++ (mt ++ me)) (n + 1) me (n + 2) := ((SubK.right _ _ _).trans (SubK.right _ _ _)).trans (SubK.up _ _)
  have kup : ∀ {M : List Nat} {q : Nat} {l : Lab}, keepL M q l = true → keepL [] q l = true := fun {M q l} z => by
    cases l <;> simp_all [keepL]
  have R1 : R.all (keepL [] (n + 1)) = true := List.all_eq_true.mpr fun l hl => kup (List.all_eq_true.mp hR l hl)
  have R2 : R.all (keepL [] (n + 2)) = true := List.all_eq_true.mpr fun l hl => keepL.up (List.all_eq_true.mp R1 l hl)
  have okup : ∀ {M : List Nat} {q : Nat}, okK M q k = true → okK [] q k = true := fun {M q} z => by
    cases k with
    | own => rfl
    | bor R => exact List.all_eq_true.mpr fun l hl => kup (List.all_eq_true.mp z l hl)
    | spn R => exact List.all_eq_true.mpr fun l hl => kup (List.all_eq_true.mp z l hl)
    | exc R => exact List.all_eq_true.mpr fun l hl => kup (List.all_eq_true.mp z l hl)
  have gw1 : gok (wipeC Γ vs) (n + 1) = true := gok.up (gok.wipe g0)
  have gw2 : gok (wipeC Γ vs) (n + 2) = true := gok.up gw1
  have hvs : ∀ i, i ∈ T.slots → i ∈ vs ∧ i < X.N.length := fun i hi => by
    have := List.all_eq_true.mp hT i hi
    simpa using this
  -- what the list at A is, when others are left
  have kA : ∀ {M : List Nat} {H2 H3 : Hp} {lab2 lab3 : Labs} {xs : List D}, Pres M (n + 2) H2 lab2 H3 lab3 → okK M (n + 2) k = true → VR X.K (clX X) H2 lab2 (lstK k) (.tmp (n + 1)) (.ref A) (.lst xs) → VR X.K (clX X) H3 lab3 (lstK k) (.tmp (n + 1)) (.ref A) (.lst xs) := fun p q v => v.pres p (okK_lst q) (by simp [keepL])
  have okM : ∀ {M : List Nat}, (∀ i ∈ M, i ∈ T.slots ++ (mt ++ me)) → okK M (n + 2) k = true := fun {M} hM => by
    have key : ∀ {l : Lab}, keepL (T.slots ++ (mt ++ me)) n l = true → keepL M (n + 2) l = true := fun {l} z => by
      have := (SubK.of hM (Nat.le_refl n)) l z
      exact keepL.up (keepL.up this)
    cases k with
    | own => rfl
    | bor R => exact List.all_eq_true.mpr fun l hl => key (List.all_eq_true.mp ok l hl)
    | spn R => exact List.all_eq_true.mpr fun l hl => key (List.all_eq_true.mp ok l hl)
    | exc R => exact List.all_eq_true.mpr fun l hl => key (List.all_eq_true.mp ok l hl)
  let St' : Nat → Hp → Prop := fun i H => ∃ σD' lab' accD, VR X.K (clX X) H lab' (lstK k) (.tmp (n + 1)) (.ref A) (.lst accD) ∧ accD.length ≤ i ∧ SR X (wipeC Γ vs) (wipe σ vs) H lab' σD' ∧ Pres (T.slots ++ (mt ++ me)) (n + 1) H1 lab1 H lab' ∧ lcL T gt ge (ds.drop i) accD σD' = .ok accF σF
  have pA : Pres [] (n + 1) H1 lab1 (upd H1 A (.lst [])) (setL lab1 A (.tmp (n + 1))) := .alloc hA rfl
  have pA' : Pres (T.slots ++ (mt ++ me)) (n + 1) H1 lab1 (upd H1 A (.lst [])) (setL lab1 A (.tmp (n + 1))) := .alloc hA rfl
  refine ⟨fun i m H => m = ds.length - i ∧ i ≤ ds.length ∧ St' i H, ⟨ds.length, by simp, Nat.zero_le _, σ1, _, [], VR.newL (upd_same ..) (if_pos rfl), Nat.le_refl _, (s1.pres (gok.up g0) pA).wipe, pA', by rw [List.drop_zero]; exact e⟩, ?_⟩
  rintro i m H2 ⟨rfl, hi, σ2, lab2, acc, vA, hacc, s2, p2, el⟩
  obtain ⟨hstop, hgo⟩ := it _ H2 lab2 p2 hR i hi
  by_cases hlt : i < ds.length
  · obtain ⟨go, hy⟩ := hgo ds[i] (List.getElem?_eq_getElem hlt)
    refine .inr ⟨go, St' (i + 1), fun H' q => ⟨ds.length - (i + 1), by omega, rfl, hlt, q⟩, fun x H3 hx => ?_⟩
    obtain ⟨lab3, p3, r3⟩ := hy x H3 hx
    rw [List.drop_eq_getElem_cons hlt, lcL] at el
    have vA3 := kA (p3 [] _) (okM (by simp)) vA
    have s3 : SR X (wipeC Γ vs) (wipe σ vs) H3 lab3 σ2 := s2.pres gw1 (p3 _ _)
    have q3 : Pres (T.slots ++ (mt ++ me)) (n + 1) H1 lab1 H3 lab3 := p2.trans (p3 _ _) (SubK.refl _ _) (SubK.refl _ _)
    cases eb : bindT T ds[i] σ2 with
    | none => rw [eb] at el; cases el
    | some σ3 =>
      rw [eb] at el
      dsimp only at el
      have r3' : VR X.K (clX X) H3 lab3 (.bor R) (.tmp (n + 2)) x ds[i] := r3
      refine tg_ok' (io := []) (fx := fun _ => .non) ⟨s3, by simp⟩ gw2 R2 (fun i hi => ⟨(hvs i hi).2, by simp⟩) r3' eb fun σ4 lab4 s4 g4 p4 hl4 hq4 => ?_
      have hw : wipe σ4 vs = wipe σ vs := by
        rw [← wipe_wipe (σ := σ)]
        exact wipe_eq hl4 fun j hj => hq4 j fun z => hj (hvs j z).1
      refine ⟨hw, ?_⟩
      have vA4 := kA p4 (okM fun j hj => List.mem_append_left _ hj) vA3
      have q4 : Pres (T.slots ++ (mt ++ me)) (n + 1) H1 lab1 H3 lab4 := q3.trans p4 (SubK.refl _ _) sub1
      refine ⟨σ3, lab4, gb, s4.s.weak hle2, ?_⟩
      cases et : gt σ3 with
      | stuck => rw [et] at el; cases el
      | exc _ _ _ => rw [et] at el; cases el
      | ok b σ5 =>
        rw [et] at el
        dsimp only at el
        intro b' H5 lab5 s5 p5 eb'
        have eb' : b' = b := eb'
        subst eb'
        have vA5 := kA p5 (okM fun j hj => by simp [hj]) vA4
        have q5 : Pres (T.slots ++ (mt ++ me)) (n + 1) H1 lab1 H5 lab5 := q4.trans p5 (SubK.refl _ _) subt
        have back : ∀ {H6 : Hp} {lab6 : Labs} {σ6 : List D}, SR X Γ' σ4 H6 lab6 σ6 → SR X (wipeC Γ vs) (wipe σ vs) H6 lab6 σ6 := fun {H6 lab6 σ6} sz => by
          have w := (sz.weak hle).wipe (vs := vs)
          have ew : wipeC (wipeC Γ vs) vs = wipeC (wipeC Γ vs) vs := rfl
          rw [hw] at w
          refine ⟨w.l1, w.l2, fun j kk hj => ?_⟩
          refine w.at_ j kk ?_
          rw [wipeC_out (wipeC_at hj).2]
          exact hj
        cases b' with
        | false =>
          rw [if_neg (by decide)] at el ⊢
          exact ⟨σ5, lab5, acc, vA5, Nat.le_succ_of_le hacc, back s5, q5, el⟩
        | true =>
          rw [if_pos rfl] at el ⊢
          refine ⟨σ5, lab5, gb, s5, ?_⟩
          cases ee : ge σ5 with
          | stuck => rw [ee] at el; cases el
          | exc _ _ _ => rw [ee] at el; cases el
          | ok d σ6 =>
            rw [ee] at el
            dsimp only at el
            intro v H6 lab6 s6 p6 r6
            have r6 : VR X.K (clX X) H6 lab6 k (.tmp (n + 2)) v d := r6
            have vA6 := kA p6 (okM fun j hj => by simp [hj]) vA5
            have q6 : Pres (T.slots ++ (mt ++ me)) (n + 1) H1 lab1 H6 lab6 := q5.trans p6 (SubK.refl _ _) sube
            obtain ⟨xs, hx6, hxl, la, lab7, p7, v7⟩ := VR.app hk vA6 r6 (okup (okK.up ok))
            exact ⟨xs, hx6, by omega, σ6, lab7, _, v7, by rw [List.length_append]; simp; omega, (back s6).pres gw1 (p7 []), q6.trans (p7 _) (SubK.refl _ _) (SubK.refl _ _), el⟩
  · have ei : i = ds.length := by omega
    refine .inl ⟨hstop ei, ?_⟩
    rw [ei, List.drop_length] at el
    cases el
    refine po1 (.ref A) H2 (colT n lab2) ?_ ((p2.mono (SubK.up _ _)).trans .colT (SubK.refl _ _) (SubK.refl _ _)) (vA.colT' (okup ok))
    refine ⟨s1.l1, by rw [restV_len]; exact s2.l2, fun j kj hj => ?_⟩
    have hz := List.all_eq_true.mp (Bool.and_eq_true_iff.mp hv).2
    have hr := List.all_eq_true.mp (Bool.and_eq_true_iff.mp hv).1
    by_cases jv : j ∈ vs
    · have z := hz j jv
      rw [hj] at z
      cases kj with
      | own =>
        have jr : j ∈ vr := by simpa using z
        obtain ⟨v, d, a, b, c⟩ := s1.at_ j .own hj
        have fl := List.all_eq_true.mp hc.2 j jr
        have ed : σ1.getD j .non = d := by rw [List.getD_eq_getElem?_getD, b]; rfl
        rw [ed] at fl
        obtain ⟨fp, rp, nd, _⟩ := c
        have e0 := rp.flat fl
        subst e0
        refine ⟨v, d, a, ?_, .of_nil (rp.ext p2.tk (by simp))⟩
        have hjl : j < σ1.length := (List.getElem?_eq_some_iff.mp b).1
        rw [restV_in jr (by rw [s2.l2, ← s1.l2]; exact hjl), ed]
      | _ => cases z
    · have jr : j ∉ vr := fun z => jv (by simpa using hr j z)
      obtain ⟨v, d, a, b, c⟩ := s2.at_ j kj (by rw [wipeC_out jv]; exact hj)
      refine ⟨v, d, by rw [← wipe_get jv]; exact a, by rw [restV_out jr]; exact b, ?_⟩
      exact c.pres (m := []) (n := n) .colT (gok.at_ g0 hj) rfl
end
section
variable {X : Cx} {W : WX} {Z : SC} {Γx Γ Γ' : Ctx} {n : Nat} {m1 mt me : List Nat} {pos spos py : Pos} {R : List Lab} {k : Kd} {elt tg iter : Expr} {ifs : List Expr} {scope : Scope} {own : List (Str × Nat)} {T : Tg} {vr : List Nat} {gi : List D → ER (List D)} {gt : List D → ER Bool} {ge : List D → ER D}
/-- what a comprehension asks beside its parts -/
structure LcOk (Γ Γ' : Ctx) (n : Nat) (T : Tg) (vs vr mt me : List Nat) (R : List Lab) (k : Kd) : Prop where
  hk : okEl k = true
  v : vrOk Γ vs vr = true
  hR : R.all (keepL (T.slots ++ (mt ++ me)) (n + 1)) = true
  ok : okK (T.slots ++ (mt ++ me)) n k = true
  l1 : leC Γ' (wipeC Γ vs) = true
  l2 : leC (tgC (wipeC Γ vs) T R) Γ' = true
  g : gok Γ' (n + 2) = true
  nx : noX Γ' = true
abbrev blkX (X : Cx) (scope : Scope) (s : Shared) (H : Hp) (C : Addr) (cl : List (Str × Addr)) (fp : List Addr) : Cx := X.blk s H scope (compEnvC scope cl C X.env) fp
theorem ej_lc (hc : X.calm = true) (hN : X.N.Nodup) (hi : IJ X W Γx Γ n m1 tg iter gi R) (ok : BlkOk X.N X.env.scope scope own)
    (hg : ∀ (s : Shared) (H : Hp) (C : Addr) (cl : List (Str × Addr)) (fp : List Addr), PG (blkX X scope s H C cl fp) tg (tgR X.K T)) (ht : ∀ (s : Shared) (H : Hp) (C : Addr) (cl : List (Str × Addr)) (fp : List Addr), PTsJ (blkX X scope s H C cl fp) Γ' (n + 2) mt ifs gt)
    (he : ∀ (s : Shared) (H : Hp) (C : Addr) (cl : List (Str × Addr)) (fp : List Addr), EJ (blkX X scope s H C cl fp) WF [] Γ' (n + 2) me elt ge k) (o : LcOk Γ Γ' n T (own.map (·.2)) vr mt me R k)
    (hT : T.slots.all (fun i => (own.map (·.2)).contains i && decide (i < X.N.length)) = true := by rfl) (hs : ∀ x, foldedSetIterable iter X.env x = pure x := by intro _; rfl) :
    EJ X W Γx Γ n (m1 ++ (T.slots ++ (mt ++ me))) (.ListComp elt [⟨tg, iter, ifs, 0⟩] scope pos) (eLc T vr gi gt ge) (lstK k) := by
  have hk : ∀ R, k ≠ .exc R := fun R z => by have := o.hk; rw [z] at this; cases this
  refine pe_imp (pe_lc hc hN hi ok hg (tt := rdT X WF [] Γ' (n + 2) mt gt) (fun s H C cl fp => ⟨fun pins sh σ Hq Q I h => (ht s H C cl fp).run pins sh σ Hq Q I (rdT_like (X := X) (X' := blkX X scope s H C cl fp) ⟨rfl, rfl, rfl⟩ o.nx h)⟩) (te := rdE X WF [] Γ' (n + 2) me k ge) (fun s H C cl fp => pe_imp (he s H C cl fp) fun σ Hq Q h => rdE_like (X := X) (X' := blkX X scope s H C cl fp) ⟨rfl, rfl, rfl⟩ o.nx hk h) hs) fun σ H Q h => ?_
  exact lc_imp o.hk o.v hT o.hR o.ok o.l1 o.l2 o.g h
theorem sj_setLc {i : Nat} {y : Str} (hc : X.calm = true) (hN : X.N.Nodup) (hy : X.N[i]? = some y) (hi : IJ X W Z.Γx Γ n m1 tg iter gi R) (ok : BlkOk X.N X.env.scope scope own)
    (hg : ∀ (s : Shared) (H : Hp) (C : Addr) (cl : List (Str × Addr)) (fp : List Addr), PG (blkX X scope s H C cl fp) tg (tgR X.K T)) (ht : ∀ (s : Shared) (H : Hp) (C : Addr) (cl : List (Str × Addr)) (fp : List Addr), PTsJ (blkX X scope s H C cl fp) Γ' (n + 2) mt ifs gt)
    (he : ∀ (s : Shared) (H : Hp) (C : Addr) (cl : List (Str × Addr)) (fp : List Addr), EJ (blkX X scope s H C cl fp) WF [] Γ' (n + 2) me elt ge k) (o : LcOk Γ Γ' n T (own.map (·.2)) vr mt me R k)
    (hyl : X.env.scope.names.lookup y = some .local := by rfl) (hsw : swapsWith (.ListComp elt [⟨tg, iter, ifs, 0⟩] scope pos) (some (.Name y py)) spos.line X.env = pure true := by exact sw_true rfl rfl rfl (by decide +kernel))
    (okl : okK [] n (lstK k) = true := by decide) (hio : Z.io.contains i = false := by decide)
    (hT : T.slots.all (fun i => (own.map (·.2)).contains i && decide (i < X.N.length)) = true := by rfl) (hs : ∀ x, foldedSetIterable iter X.env x = pure x := by intro _; rfl) :
    SJ X W Z Γ (putC Γ i (lstK k)) n ((m1 ++ (T.slots ++ (mt ++ me))) ++ [i]) (.Assign [.Name y py] (.ListComp elt [⟨tg, iter, ifs, 0⟩] scope pos) spos) (sSet i (eLc T vr gi gt ge)) := by
  have hk : ∀ R, k ≠ .exc R := fun R z => by have := o.hk; rw [z] at this; cases this
  refine ps_imp (ps_setLc hc hN hy hyl hsw hi ok hg (tt := rdT X WF [] Γ' (n + 2) mt gt) (fun s H C cl fp => ⟨fun pins sh σ Hq Q I h => (ht s H C cl fp).run pins sh σ Hq Q I (rdT_like (X := X) (X' := blkX X scope s H C cl fp) ⟨rfl, rfl, rfl⟩ o.nx h)⟩) (te := rdE X WF [] Γ' (n + 2) me k ge) (fun s H C cl fp => pe_imp (he s H C cl fp) fun σ Hq Q h => rdE_like (X := X) (X' := blkX X scope s H C cl fp) ⟨rfl, rfl, rfl⟩ o.nx hk h) hs) fun E σ H hh => ?_
  obtain ⟨σD, lab, fx, g0, s, po⟩ := hh
  refine sof_imp (te := tLc (rdI X W Z.Γx Γ n m1 R gi) (tgR X.K T) (rdT X WF [] Γ' (n + 2) mt gt) (rdE X WF [] Γ' (n + 2) me k ge) (own.map (·.2))) (fun _ _ _ q => lc_imp o.hk o.v hT o.hR o.ok o.l1 o.l2 o.g q) g0 s po fun d σD1 v H1 lab1 s1 p1 r1 po1 => ?_
  have hlt : i < X.N.length := (List.getElem?_eq_some_iff.mp hy).1
  refine po1 (σ.set i (some v)) H1 (labPut i n lab1) ⟨s1.s.put g0 hlt r1 okl, fun j hj => ?_⟩ .put
  rw [List.getElem?_set_ne]
  · exact s1.f j hj
  · rintro rfl
    have : Z.io.contains i = true := by simpa using hj
    rw [this] at hio; cases hio
end
end Ow


namespace Ow
open PySem PySem.Spec PyProof.Rows L2
section
variable {X : Cx} {W : WX} {Γx Γ : Ctx} {n : Nat} {m m1 m2 : List Nat} {H : Hp} {lab : Labs} {pos p : Pos} {R : List Lab} {k k1 : Kd} {ks : List AK} {gs : List D → ER (List D)} {tg e e2 : Expr}
/-- what two things are held by, together -/
def zipR (n : Nat) (ks : List AK) : List Lab := if (ks.all fun k => match k with | .val (.bor R) => R.all (keepL [] n) | _ => false) then unionR ks else .tmp n :: unionR ks
theorem bw_colT {a : Addr} (h : (∃ j, n ≤ j ∧ lab a = .tmp j) ∨ bw R (lab a)) : bw (.tmp n :: R) (colT n lab a) := by
  by_cases q : ∃ j, n ≤ j ∧ lab a = .tmp j
  · obtain ⟨j, hj, e⟩ := q
    exact .inr (by rw [colT_tmp e hj]; exact List.mem_cons_self)
  · have e : colT n lab a = lab a := by
      unfold colT
      split
      · rename_i j e
        rw [if_neg (fun z => q ⟨j, z, e⟩), e]
      · rfl
    rw [e]
    rcases h with h | h | h
    · exact absurd h q
    · exact .inl h
    · exact .inr (List.mem_cons_of_mem _ h)
theorem AR.bors {σ : St} {σD : List D} : ∀ {ks : List AK} {n q : Nat} {vs : List V} {ds : List D}, AR X σ σD H lab q ks vs ds → (ks.all fun k => match k with | .val (.bor R) => R.all (keepL [] n) | _ => false) = true → ∃ fp, RpL X.K (clX X) H vs ds fp ∧ ∀ a ∈ fp, bw (unionR ks) (colT n lab a)
  | [], _, _, _, _, ⟨e1, e2⟩, _ => by
    subst e1 e2
    exact ⟨[], .nil, by simp⟩
  | .val (.bor R) :: ks, n, q, _, _, ⟨v, vs', d, ds', e1, e2, r, h⟩, o => by
    subst e1 e2
    rw [List.all_cons, Bool.and_eq_true] at o
    obtain ⟨f2, r2, l2⟩ := AR.bors (n := n) h o.2
    obtain ⟨f1, r1, l1⟩ := r
    refine ⟨f1 ++ f2, .cons r1 r2, fun a ha => ?_⟩
    rcases List.mem_append.mp ha with z | z
    · have b := l1 a z
      rw [colT_keep (m := []) (bw_keep o.1 b)]
      exact b.elim .inl fun y => .inr (List.mem_flatMap.mpr ⟨_, List.mem_cons_self, y⟩)
    · exact (l2 a z).elim .inl fun y => .inr (List.mem_flatMap.mpr (by
        obtain ⟨x, hx, e⟩ := List.mem_flatMap.mp y
        exact ⟨x, List.mem_cons_of_mem _ hx, e⟩))
  | .val .own :: ks, _, _, _, _, _, o => by simp at o
  | .val (.spn R) :: ks, _, _, _, _, _, o => by simp at o
  | .val (.exc R) :: ks, _, _, _, _, _, o => by simp at o
  | .slot r :: ks, _, _, _, _, _, o => by simp at o
theorem AR.zipR {σ : St} {σD : List D} {vs : List V} {ds : List D} (h : AR X σ σD H lab n ks vs ds) (hv : ks.all valA = true) : ∃ fp, RpL X.K (clX X) H vs ds fp ∧ ∀ a ∈ fp, bw (zipR n ks) (colT n lab a) := by
  by_cases z : (ks.all fun k => match k with | .val (.bor R) => R.all (keepL [] n) | _ => false) = true
  · obtain ⟨fp, r, l⟩ := h.bors (n := n) z
    exact ⟨fp, r, by unfold Ow.zipR; rw [if_pos z]; exact l⟩
  · obtain ⟨fp, r, l⟩ := h.mix hv
    exact ⟨fp, r, by unfold Ow.zipR; rw [if_neg z]; exact fun a ha => bw_colT (l a ha)⟩
def zipD (xs ys : List D) : List D := List.zipWith (fun x y => .tup [x, y]) xs ys
theorem Rp.keepR {m' : List Nat} {H' : Hp} {lab' : Labs} {v : V} {d : D} {fp : List Addr} (r : Rp X.K (clX X) H v d fp) (l : ∀ a ∈ fp, bw R (lab a)) (p : Pres m' n H lab H' lab') (ok : R.all (keepL m' n) = true) : Rp X.K (clX X) H' v d fp ∧ ∀ a ∈ fp, bw R (lab' a) := by
  have e : ∀ a ∈ fp, H' a = H a ∧ lab' a = lab a := fun a ha => p.keep a (by obtain ⟨o, e, _⟩ := r.alloc a ha; rw [e]; simp) (bw_keep ok (l a ha))
  exact ⟨r.ext p.tk fun a ha => (e a ha).1, fun a ha => by rw [(e a ha).2]; exact l a ha⟩
theorem zip_at {xs ys : List D} {i : Nat} {d : D} (h : (zipD xs ys)[i]? = some d) : ∃ x y, xs[i]? = some x ∧ ys[i]? = some y ∧ d = .tup [x, y] := by
  unfold zipD at h
  rw [List.getElem?_zipWith] at h
  cases e1 : xs[i]? with
  | none => rw [e1] at h; cases h
  | some x => cases e2 : ys[i]? with
    | none => rw [e1, e2] at h; cases h
    | some y => rw [e1, e2] at h; cases h; exact ⟨x, y, rfl, rfl, rfl⟩
/-- a fresh pair -/
theorem pair_new {H' : Hp} {lab' : Labs} {T : Addr} {x y : V} {dx dy : D} {fx fy : List Addr} (hT : H' T = none) (rx : Rp X.K (clX X) H' x dx fx) (ry : Rp X.K (clX X) H' y dy fy) (lx : ∀ a ∈ fx, bw R (lab' a)) (ly : ∀ a ∈ fy, bw R (lab' a)) :
    (∀ m'' n'', Pres m'' n'' H' lab' (upd H' T (.tup [x, y])) (setL lab' T .fro)) ∧ VR X.K (clX X) (upd H' T (.tup [x, y])) (setL lab' T .fro) (.bor R) (.tmp (n + 1)) (.ref T) (.tup [dx, dy]) := by
  refine ⟨fun _ _ => .alloc hT rfl, ?_⟩
  have r := RpL.cons rx (RpL.one ry)
  refine ⟨fx ++ fy, .tup (.of upd_same) (r.ext (TK.new hT) fun a ha => upd_ne fun z => ?_), fun a ha => ?_⟩
  · obtain ⟨o, q, _⟩ := r.alloc a ha
    rw [z, hT] at q; cases q
  · show bw R (if a = T then _ else _)
    by_cases z : a = T
    · rw [if_pos z]; exact .inl rfl
    · rw [if_neg z]; exact (List.mem_append.mp ha).elim (lx a) (ly a)
theorem iter_zip {a b : Addr} {xs ys : List D} {f1 f2 : List Addr} (ra : Rp X.K (clX X) H (.ref a) (.lst xs) f1) (rb : Rp X.K (clX X) H (.ref b) (.lst ys) f2) (la : ∀ z ∈ f1, bw R (lab z)) (lb : ∀ z ∈ f2, bw R (lab z)) : IterOk X n R (Itz X.K a b) (zipD xs ys) H lab := fun m' H' lab' p ok i hi => by
  obtain ⟨ra', la'⟩ := ra.keepR la p ok
  obtain ⟨rb', lb'⟩ := rb.keepR lb p ok
  cases ra' with
  | lst ha r1 =>
  cases rb' with
  | lst hb r2 =>
  rename_i vs g1 ws g2
  refine ⟨fun e => ⟨vs, ws, .of ha, .of hb, ?_⟩, fun d hd => ?_⟩
  · rw [r1.len, r2.len, e]
    unfold zipD
    rw [List.length_zipWith]
    omega
  · obtain ⟨dx, dy, ex, ey, rfl⟩ := zip_at hd
    obtain ⟨x, fx, e1, rx, sx⟩ := r1.get ex
    obtain ⟨y, fy, e2, ry, sy⟩ := r2.get ey
    refine ⟨⟨vs, ws, x, y, .of ha, .of hb, e1, e2⟩, fun v H'' hy => ?_⟩
    obtain ⟨T, x', y', rfl, hT, rfl, hx', hy'⟩ := hy
    have := hx' vs (.of ha); rw [e1] at this; cases this
    have := hy' ws (.of hb); rw [e2] at this; cases this
    obtain ⟨P, V⟩ := pair_new (n := n) hT rx ry (fun z hz => la' z (List.mem_cons_of_mem _ (sx.subset hz))) fun z hz => lb' z (List.mem_cons_of_mem _ (sy.subset hz))
    exact ⟨_, P, V⟩
theorem iter_zipT {a b : Addr} {xs ys : List D} {f1 f2 : List Addr} (ra : Rp X.K (clX X) H (.ref a) (.tup xs) f1) (rb : Rp X.K (clX X) H (.ref b) (.tup ys) f2) (la : ∀ z ∈ f1, bw R (lab z)) (lb : ∀ z ∈ f2, bw R (lab z)) : IterOk X n R (RZ.ItzT X.K a b) (zipD xs ys) H lab := fun m' H' lab' p ok i hi => by
  obtain ⟨ra', la'⟩ := ra.keepR la p ok
  obtain ⟨rb', lb'⟩ := rb.keepR lb p ok
  cases ra' with
  | tup ha r1 =>
  cases rb' with
  | tup hb r2 =>
  rename_i vs ws
  refine ⟨fun e => ⟨vs, ws, ha, hb, ?_⟩, fun d hd => ?_⟩
  · rw [r1.len, r2.len, e]
    unfold zipD
    rw [List.length_zipWith]
    omega
  · obtain ⟨dx, dy, ex, ey, rfl⟩ := zip_at hd
    obtain ⟨x, fx, e1, rx, sx⟩ := r1.get ex
    obtain ⟨y, fy, e2, ry, sy⟩ := r2.get ey
    refine ⟨⟨vs, ws, x, y, ha, hb, e1, e2⟩, fun v H'' hy => ?_⟩
    obtain ⟨T, x', y', rfl, hT, rfl, hx', hy'⟩ := hy
    have := hx' vs ha; rw [e1] at this; cases this
    have := hy' ws hb; rw [e2] at this; cases this
    obtain ⟨P, V⟩ := pair_new (n := n) hT rx ry (fun z hz => la' z (sx.subset hz)) fun z hz => lb' z (sy.subset hz)
    exact ⟨_, P, V⟩
def fZip : List D → Option (List D)
  | [.lst a, .lst b] => some (zipD a b)
  | [.tup a, .tup b] => some (zipD a b)
  | _ => none
def gFun (f : List D → Option (List D)) (gs : List D → ER (List D)) : List D → ER (List D) := fun σ => (gs σ).bind fun ds σ1 => ofO (f ds) σ1
theorem ij_zip {elts : List Expr} {kk : Nat} {tpos : Pos} (hm : X.mg "zip" = none) (ha : AJ X W Γx Γ n m [e, e2] gs ks) (hv : ks.all valA = true := by rfl) (hg : Gl X "zip" := by rfl)
    (hs : starEach [e, e2] X.env = (false, eval e X.env) :: starEach [e2] X.env := by rfl) (hpl : (backTo pos (starEach [e2] X.env)).any (·.1) = false := by rfl) :
    IJ X W Γx Γ n m (.Tuple elts kk tpos) (.Call (.Name "zip" p) [e, e2] [] pos) (gFun fZip gs) (zipR n ks) := by
  refine pi_imp (RZ.pi_zipA hg hm ha hs hpl) fun σ H Q hh => ?_
  obtain ⟨σD, lab, g0, s, po⟩ := hh
  refine ⟨σD, lab, g0, s, po.last fun ds σD1 vs H1 lab1 s1 p1 r1 po1 => ?_⟩
  obtain ⟨z, ez, q⟩ := po1.done
  obtain ⟨fp, rl, ll⟩ := AR.zipR r1 hv
  unfold fZip at ez
  split at ez
  · rename_i a b
    cases ez
    cases rl with
    | cons h1 rl => cases rl with
      | cons h2 rl =>
        cases rl
        rename_i v1 f1 v2 f2
        have la : ∀ z ∈ f1, bw (zipR n ks) (colT n lab1 z) := fun z hz => ll z (List.mem_append_left _ hz)
        have lb : ∀ z ∈ f2, bw (zipR n ks) (colT n lab1 z) := fun z hz => ll z (List.mem_append_right _ (List.mem_append_left _ hz))
        cases h1 with
        | lst hx1 hx2 => cases h2 with
          | lst hy1 hy2 => exact ⟨_, _, _, _, rfl, .inl ⟨.of hx1, .of hy1, q _ H1 _ (s1.pres g0 .colT) .colT (iter_zip (.lst hx1 hx2) (.lst hy1 hy2) la lb)⟩⟩
  · rename_i a b
    cases ez
    cases rl with
    | cons h1 rl => cases rl with
      | cons h2 rl =>
        cases rl
        rename_i v1 f1 v2 f2
        have la : ∀ z ∈ f1, bw (zipR n ks) (colT n lab1 z) := fun z hz => ll z (List.mem_append_left _ hz)
        have lb : ∀ z ∈ f2, bw (zipR n ks) (colT n lab1 z) := fun z hz => ll z (List.mem_append_right _ (List.mem_append_left _ hz))
        cases h1 with
        | tup hx1 hx2 => cases h2 with
          | tup hy1 hy2 => exact ⟨_, _, _, _, rfl, .inr ⟨hx1, hy1, q _ H1 _ (s1.pres g0 .colT) .colT (iter_zipT (.tup hx1 hx2) (.tup hy1 hy2) la lb)⟩⟩
  · cases ez
/-- enumerate -/
def enumD (xs : List D) : List D := xs.mapIdx fun i x => .tup [.int i, x]
def fEnum : List D → Option (List D)
  | [.lst a] => some (enumD a)
  | _ => none
theorem iter_enum {a : Addr} {xs : List D} {f1 : List Addr} (ra : Rp X.K (clX X) H (.ref a) (.lst xs) f1) (la : ∀ z ∈ f1, bw R (lab z)) : IterOk X n R (Ite X.K a) (enumD xs) H lab := fun m' H' lab' p ok i hi => by
  obtain ⟨ra', la'⟩ := ra.keepR la p ok
  cases ra' with
  | lst ha r1 =>
  rename_i vs g1
  refine ⟨fun e => ⟨vs, .of ha, ?_⟩, fun d hd => ?_⟩
  · rw [r1.len, e]
    unfold enumD
    rw [List.length_mapIdx]
    exact Nat.le_refl _
  · unfold enumD at hd
    rw [List.getElem?_mapIdx] at hd
    cases ex : xs[i]? with
    | none => rw [ex] at hd; cases hd
    | some dx =>
      rw [ex] at hd
      cases hd
      obtain ⟨x, fx, e1, rx, sx⟩ := r1.get ex
      refine ⟨⟨vs, x, .of ha, e1⟩, fun v H'' hy => ?_⟩
      obtain ⟨T, x', rfl, hT, rfl, hx'⟩ := hy
      have := hx' vs (.of ha); rw [e1] at this; cases this
      obtain ⟨P, V⟩ := pair_new (n := n) (dx := .int i) hT (.int _) rx (by simp) fun z hz => la' z (List.mem_cons_of_mem _ (sx.subset hz))
      exact ⟨_, P, V⟩
theorem ij_enum {elts : List Expr} {kk : Nat} {tpos : Pos} (hm : X.mg "enumerate" = none) (ha : AJ X W Γx Γ n m [e] gs ks) (hv : ks.all valA = true := by rfl) (hg : Gl X "enumerate" := by rfl) (hs : starEach [e] X.env = [(false, eval e X.env)] := by rfl) :
    IJ X W Γx Γ n m (.Tuple elts kk tpos) (.Call (.Name "enumerate" p) [e] [] pos) (gFun fEnum gs) (zipR n ks) := by
  refine pi_imp (pi_enum hg hm ha hs) fun σ H Q hh => ?_
  obtain ⟨σD, lab, g0, s, po⟩ := hh
  refine ⟨σD, lab, g0, s, po.last fun ds σD1 vs H1 lab1 s1 p1 r1 po1 => ?_⟩
  obtain ⟨z, ez, q⟩ := po1.done
  obtain ⟨fp, rl, ll⟩ := AR.zipR r1 hv
  unfold fEnum at ez
  split at ez
  · cases ez
    cases rl with
    | cons h1 rl =>
      cases rl
      have la := fun z hz => ll z (List.mem_append_left _ hz)
      cases h1 with
      | lst hx1 hx2 => exact ⟨_, _, rfl, .of hx1, q _ H1 _ (s1.pres g0 .colT) .colT (iter_enum (.lst hx1 hx2) la)⟩
  · cases ez
/-- reversed -/
def fRev : List D → Option (List D)
  | [.lst a] => some a.reverse
  | _ => none
def isBl : D → Bool
  | .bl _ => true
  | _ => false
def toB : D → Bool
  | .bl b => b
  | _ => false
def fAll : List D → Option D
  | [.lst ds] => if ds.all isBl = true then some (.bl (ds.all toB)) else none
  | _ => none
theorem RpL.bools {K : PySem.W.Frag} {cl : CE} : ∀ {vs : List V} {ds : List D} {fp : List Addr}, RpL K cl H vs ds fp → ds.all isBl = true → ∃ bs : List Bool, vs = bs.map V.bl ∧ ds = bs.map D.bl
  | _, _, _, .nil, _ => ⟨[], rfl, rfl⟩
  | _, _, _, .cons h r, e => by
    rw [List.all_cons, Bool.and_eq_true] at e
    obtain ⟨bs, e1, e2⟩ := RpL.bools r e.2
    cases h with
    | bl b => exact ⟨b :: bs, by rw [e1]; rfl, by rw [e2]; rfl⟩
    | _ => cases e.1
theorem sc_all : ScalCall X fAll (rAll X.K) := fun ds z e => by
  unfold fAll at e
  split at e
  · split at e
    · rename_i hb
      cases e
      refine ⟨_, .bl _, fun H vs fp Q r q => ?_⟩
      obtain ⟨v, f, rfl, rr⟩ := r.one_inv
      cases rr with
      | lst h r =>
        obtain ⟨bs, e1, e2⟩ := r.bools hb
        subst e1 e2
        refine ⟨_, bs, rfl, .of h, ?_⟩
        have : (bs.map D.bl).all toB = bs.all id := by rw [List.all_map]; rfl
        rw [← this]; exact q
    · cases e
  · cases e
theorem ej_all (hc : X.calm = true) (hm : X.mg "all" = none) (ha : AJ X W Γx Γ n m [e] gs ks) (hg : Gl X "all" := by rfl) (ho : ks.all valA = true := by rfl) (he : starEach [e] X.env = [(false, eval e X.env)] := by rfl) : EJ X W Γx Γ n m (.Call (.Name "all" p) [e] [] pos) (eCall1 fAll gs) .own :=
  ej_callB sc_all (cr_all hc) hg hm boot_all ha ho (by decide) (by decide) he rfl
def isI : D → Bool
  | .int _ => true
  | _ => false
theorem RpL.ints {K : PySem.W.Frag} {cl : CE} : ∀ {vs : List V} {ds : List D} {fp : List Addr}, RpL K cl H vs ds fp → ds.all isI = true → ∃ bs : List Int, vs = bs.map V.int ∧ ds = bs.map D.int
  | _, _, _, .nil, _ => ⟨[], rfl, rfl⟩
  | _, _, _, .cons h r, e => by
    rw [List.all_cons, Bool.and_eq_true] at e
    obtain ⟨bs, e1, e2⟩ := RpL.ints r e.2
    cases h with
    | int b => exact ⟨b :: bs, by rw [e1]; rfl, by rw [e2]; rfl⟩
    | _ => cases e.1
theorem mk_spn {vs : List V} {ds : List D} {fp : List Addr} {q : Addr} (r : RpL X.K (clX X) H vs ds fp) (l : ∀ a ∈ fp, (∃ j, n ≤ j ∧ lab a = .tmp j) ∨ bw R (lab a)) (hp : H q = none) :
    Pres [] n H lab (upd H q (.lst vs)) (setL (colF n lab) q (.tmp n)) ∧ VR X.K (clX X) (upd H q (.lst vs)) (setL (colF n lab) q (.tmp n)) (.spn R) (.tmp n) (.ref q) (.lst ds) := by
  have ne : ∀ a ∈ fp, a ≠ q := fun a ha e => by
    obtain ⟨o, z, _⟩ := r.alloc a ha
    rw [e, hp] at z; cases z
  refine ⟨Pres.colF.trans (.alloc hp rfl) (SubK.refl _ _) (SubK.refl _ _), q, vs, ds, fp, rfl, rfl, upd_same, r.ext (TK.new hp) fun a ha => upd_ne (ne a ha), if_pos rfl, fun a ha => ⟨ne a ha, ?_⟩⟩
  show bw _ (if a = q then _ else _)
  rw [if_neg (ne a ha)]
  exact bw_colF (l a ha)
theorem mk_tup {vs : List V} {ds : List D} {fp : List Addr} {q : Addr} (r : RpL X.K (clX X) H vs ds fp) (l : ∀ a ∈ fp, (∃ j, n ≤ j ∧ lab a = .tmp j) ∨ bw R (lab a)) (hp : H q = none) :
    Pres [] n H lab (upd H q (.tup vs)) (setL (colF n lab) q (.tmp n)) ∧ VR X.K (clX X) (upd H q (.tup vs)) (setL (colF n lab) q (.tmp n)) (.bor R) (.tmp n) (.ref q) (.tup ds) := by
  have ne : ∀ a ∈ fp, a ≠ q := fun a ha e => by
    obtain ⟨o, z, _⟩ := r.alloc a ha
    rw [e, hp] at z; cases z
  refine ⟨Pres.colF.trans (.alloc hp rfl) (SubK.refl _ _) (SubK.refl _ _), fp, .tup (.of upd_same) (r.ext (TK.new hp) fun a ha => upd_ne (ne a ha)), fun a ha => ?_⟩
  show bw _ (if a = q then _ else _)
  rw [if_neg (ne a ha)]
  exact bw_colF (l a ha)
/-- the items of a thing, however it is held -/
theorem VR.its {k : Kd} {j : Nat} {v : V} {d : D} (h : VR X.K (clX X) H lab k (.tmp j) v d) (hn : d.noE = true) (hj : n ≤ j) : ∃ fp, Rp X.K (clX X) H v d fp ∧ ∀ a ∈ fp, (∃ j, n ≤ j ∧ lab a = .tmp j) ∨ bw (labsK k) (lab a) := by
  cases k with
  | own => obtain ⟨fp, r, _, l⟩ := h; exact ⟨fp, r, fun a ha => .inl ⟨j, hj, l a ha⟩⟩
  | bor R => obtain ⟨fp, r, l⟩ := h; exact ⟨fp, r, fun a ha => .inr (l a ha)⟩
  | spn R =>
    obtain ⟨a, vs, ds, fp, rfl, rfl, ha, r, la, l⟩ := h
    refine ⟨_, .lst ha r, fun b hb => ?_⟩
    rcases List.mem_cons.mp hb with q | q
    · exact .inl ⟨j, hj, by rw [q]; exact la⟩
    · exact .inr (l b q).2
  | exc R => obtain ⟨fp, r, _⟩ := h; cases r <;> cases hn
def fListOf : List D → Option D
  | [.lst ds] => some (.lst ds)
  | [.fzl ds] => some (.lst ds)
  | [.tup ds] => some (.lst ds)
  | _ => none
theorem ej_listOf (hm : X.mg "list" = none) (ha : AJ X W Γx Γ n m [e] gs [.val k]) (hg : Gl X "list" := by rfl) (he : starEach [e] X.env = [(false, eval e X.env)] := by rfl) : EJ X W Γx Γ n m (.Call (.Name "list" p) [e] [] pos) (eCall1 fListOf gs) (.spn (labsK k)) := by
  refine pe_imp (pe_callTy call_list_of hg hm (by decide +kernel) ha (by decide) (by decide) he rfl) fun σ H Q h => ?_
  obtain ⟨σD, lab, g0, s, po⟩ := h
  refine ⟨σD, lab, g0, s, po.last fun ds σD1 vs H1 lab1 s1 p1 r1 po1 => ?_⟩
  obtain ⟨z, ez, q⟩ := po1.done
  obtain ⟨v, vs', d, ds', e1, e2, r, e3, e4⟩ := r1
  subst e1 e2 e3 e4
  unfold fListOf at ez
  split at ez
  · rename_i e0
    cases e0; cases ez
    obtain ⟨fp, rp, l⟩ := r.its rfl (Nat.le_refl n)
    cases rp with
    | lst h1 h2 => exact ⟨_, _, rfl, .inl (.of h1), fun q' hq => by
        obtain ⟨P, V⟩ := mk_spn (n := n) (R := labsK k) h2 (fun a ha => l a (List.mem_cons_of_mem _ ha)) hq
        exact q _ _ _ (s1.pres g0 P) P V⟩
  · rename_i e0
    cases e0; cases ez
    obtain ⟨fp, rp, l⟩ := r.its rfl (Nat.le_refl n)
    cases rp with
    | lsf h1 h2 => exact ⟨_, _, rfl, .inl h1.sql, fun q' hq => by
        obtain ⟨P, V⟩ := mk_spn (n := n) (R := labsK k) h2 l hq
        exact q _ _ _ (s1.pres g0 P) P V⟩
  · rename_i e0
    cases e0; cases ez
    obtain ⟨fp, rp, l⟩ := r.its rfl (Nat.le_refl n)
    cases rp with
    | tup h1 h2 => exact ⟨_, _, rfl, .inr h1, fun q' hq => by
        obtain ⟨P, V⟩ := mk_spn (n := n) (R := labsK k) h2 l hq
        exact q _ _ _ (s1.pres g0 P) P V⟩
  · cases ez
def fTupOf : List D → Option D
  | [.lst ds] => some (.tup ds)
  | [.tup ds] => some (.tup ds)
  | _ => none
end
end Ow


namespace Ow
open PySem PySem.Spec PyProof.Rows L2
section
variable {X : Cx} {W : WX} {Z : SC} {Γx Γ Γ' : Ctx} {n r : Nat} {m m1 m2 m3 : List Nat} {H : Hp} {lab : Labs} {pos p px apos : Pos} {R : List Lab} {k k1 : Kd} {ks : List AK} {gs : List D → ER (List D)} {tg e e2 a b : Expr} {x : Str} {g ga gb : List D → ER D}
theorem ej_append (hx : PE X (.Name x px) (tVar r)) (ha : AJ X W Γx Γ n m [e] gs ks) (hr : Γ[r]? = some (some .own) := by rfl) (hb : noBor Γ r = true := by decide) (ho : ks.all ownA = true := by rfl)
    (hbase : attributeBase (.Name x px) "append" X.env (eval (.Name x px) X.env) = eval (.Name x px) X.env := by rfl)
    (hfew : ((backTo pos (starEach (e :: []) X.env)).all (fun x => !x.1) && (backToKw pos (keywordEach [] X.env)).all (fun x => x.1.isSome)
      && decide ((e :: ([] : List Expr)).length + ([] : List Keyword).length + (if ([] : List Keyword).isEmpty then 0 else 1) < 30)) = true := by rfl)
    (hline : (apos.endLine == pos.line) = true := by rfl) (hs : starEach (e :: []) X.env = (false, eval e X.env) :: starEach [] X.env := by rfl) (hplain : (backTo pos (starEach [] X.env)).any (·.1) = false := by rfl) :
    EJ X W Γx Γ n (m ++ [r]) (.Call (.Attribute (.Name x px) "append" apos) [e] [] pos) (eMut "list" r mAppend gs) .own :=
  ej_mut mo_append (pe_bm PySem.F.plainAttrs_list PySem.F.slot_list_append PySem.F.type_list_append mt_append hx ha hbase hfew hline hs hplain) hr hb ho
theorem ej_popAt (hx : PE X (.Name x px) (tVar r)) (ha : AJ X W Γx Γ n m [e] gs ks) (hr : Γ[r]? = some (some .own) := by rfl) (hb : noBor Γ r = true := by decide) (ho : ks.all ownA = true := by rfl)
    (hbase : attributeBase (.Name x px) "pop" X.env (eval (.Name x px) X.env) = eval (.Name x px) X.env := by rfl)
    (hfew : ((backTo pos (starEach (e :: []) X.env)).all (fun x => !x.1) && (backToKw pos (keywordEach [] X.env)).all (fun x => x.1.isSome)
      && decide ((e :: ([] : List Expr)).length + ([] : List Keyword).length + (if ([] : List Keyword).isEmpty then 0 else 1) < 30)) = true := by rfl)
    (hline : (apos.endLine == pos.line) = true := by rfl) (hs : starEach (e :: []) X.env = (false, eval e X.env) :: starEach [] X.env := by rfl) (hplain : (backTo pos (starEach [] X.env)).any (·.1) = false := by rfl) :
    EJ X W Γx Γ n (m ++ [r]) (.Call (.Attribute (.Name x px) "pop" apos) [e] [] pos) (eMut "list" r mPopAt gs) .own :=
  ej_mut mo_popAt (pe_bm PySem.F.plainAttrs_list PySem.F.slot_list_pop PySem.F.type_list_pop mt_popAt hx ha hbase hfew hline hs hplain) hr hb ho
def cutD (xs : List D) (lo hi : Option Int) : List D := (xs.drop (HT.sIx xs.length 0 lo)).take (HT.sIx xs.length xs.length hi - HT.sIx xs.length 0 lo)
/-- a slice's part -/
def rdO (X : Cx) (W : WX) (Γx Γ : Ctx) (n : Nat) (m : List Nat) (g : List D → ER (Option Int)) : TO := fun σ H Q => ∃ σD lab, gok Γ n = true ∧ SR X Γ σ H lab σD ∧ Post X W Γx Γ σ m n (fun _ _ _ (b a : Option Int) => b = a) H lab Q (g σD)
abbrev OJ (X : Cx) (W : WX) (Γx Γ : Ctx) (n : Nat) (m : List Nat) (e : Option Expr) (g : List D → ER (Option Int)) : Prop := PO X e (rdO X W Γx Γ n m g)
theorem po_imp {e : Option Expr} {t u : TO} (h : PO X e t) (i : ∀ σ H Q, u σ H Q → t σ H Q) : PO X e u := ⟨fun pins s σ H Q I q => h.run pins s σ H Q I (i σ H Q q)⟩
def oNone : List D → ER (Option Int) := fun σ => .ok none σ
def oSome (g : List D → ER D) : List D → ER (Option Int) := fun σ => (g σ).bind fun d σ1 => match d with
  | .int i => .ok (some i) σ1
  | _ => .stuck
theorem oj_none : OJ X W Γx Γ n [] none oNone := po_imp po_none fun σ H Q h => by
  obtain ⟨σD, lab, g0, s, po⟩ := h
  exact po none H lab s (.refl _ _ _ _) rfl
theorem oj_some (h : EJ X W Γx Γ n m e g k) : OJ X W Γx Γ n m (some e) (oSome g) := po_imp (po_some h) fun σ H Q h => by
  obtain ⟨σD, lab, g0, s, po⟩ := h
  refine ⟨σD, lab, g0, s, po.last fun d σD1 v H1 lab1 s1 p1 r1 po1 => ?_⟩
  cases d with
  | int i =>
    have e := r1.int
    subst e
    exact ⟨i, rfl, po1 _ H1 lab1 s1 (.refl _ _ _ _) rfl⟩
  | _ => exact po1.elim
def dSlL (d : D) (lo hi : Option Int) : Option D := match d with
  | .lst xs => some (.lst (cutD xs lo hi))
  | .fzl xs => some (.lst (cutD xs lo hi))
  | _ => none
def dSlT (d : D) (lo hi : Option Int) : Option D := match d with
  | .tup xs => some (.tup (cutD xs lo hi))
  | _ => none
def eSl (f : D → Option Int → Option Int → Option D) (g : List D → ER D) (go gh : List D → ER (Option Int)) : List D → ER D := fun σ => (g σ).bind fun d σ1 => (go σ1).bind fun lo σ2 => (gh σ2).bind fun hi σ3 => ofO (f d lo hi) σ3
theorem cut_rp {vs : List V} {ds : List D} {fp : List Addr} (h : RpL X.K (clX X) H vs ds fp) (lo hi : Option Int) : ∃ f, RpL X.K (clX X) H (cutV vs lo hi) (cutD ds lo hi) f ∧ f.Sublist fp := by
  unfold cutV cutD
  rw [h.len]
  obtain ⟨f1, r1, s1⟩ := h.drop (HT.sIx ds.length 0 lo)
  obtain ⟨f2, r2, s2⟩ := r1.take (HT.sIx ds.length ds.length hi - HT.sIx ds.length 0 lo)
  exact ⟨f2, r2, s2.trans s1⟩
theorem sl_parts {lo hi : Option Expr} {gl gh : List D → ER (Option Int)} {rr : V → Option Int → Option Int → Hp → VK → Prop} {f : D → Option Int → Option Int → Option D} {kr : Kd} (hr : SlR X rr) (he : EJ X W Γx Γ n m1 e g k) (hl : OJ X W Γx Γ (n + 1) m2 lo gl) (hh : OJ X W Γx Γ (n + 1) m3 hi gh)
    (ok : okK (m2 ++ m3) (n + 1) k = true)
    (hf : ∀ {H : Hp} {lab : Labs} {v : V} {d z : D} {l u : Option Int} {σD : List D} {σ : St} {Q : VK}, gok Γ n = true → SR X Γ σ H lab σD → VR X.K (clX X) H lab k (.tmp n) v d → f d l u = some z → (∀ b H' lab', SR X Γ σ H' lab' σD → Pres [] n H lab H' lab' → VR X.K (clX X) H' lab' kr (.tmp n) b z → Q b H') → rr v l u H Q) :
    EJ X W Γx Γ n (m1 ++ (m2 ++ m3)) (.Subscript e (.Slice lo hi none p) pos) (eSl f g gl gh) kr := by
  refine pe_imp (pe_slice hr he hl hh) fun σ H Q h => ?_
  obtain ⟨σD, lab, g0, s, po⟩ := h
  refine ⟨σD, lab, g0, s, po.seq' fun d σD1 v H1 lab1 s1 p1 r1 po1 => ?_⟩
  refine ⟨σD1, lab1, gok.up g0, s1, po1.seq (m1 := m2) (n1 := n + 1) (m2 := m3) (n2 := n) ((SubK.left _ _ _).trans (SubK.up _ _)) (Nat.le_succ _) (SubK.right _ _ _) (Nat.le_refl _) fun l σD2 l' H2 lab2 s2 p2 e2 po2 => ?_⟩
  subst e2
  refine ⟨σD2, lab2, gok.up g0, s2, po2.seq (m1 := m3) (n1 := n + 1) (m2 := []) (n2 := n) (SubK.up _ _) (Nat.le_succ _) (SubK.nil _ _) (Nat.le_refl _) fun u σD3 u' H3 lab3 s3 p3 e3 po3 => ?_⟩
  subst e3
  have r1 : VR X.K (clX X) H1 lab1 k (.tmp n) v d := r1
  have P : Pres (m2 ++ m3) (n + 1) H1 lab1 H3 lab3 := p2.trans p3 (SubK.left _ _ _) (SubK.right _ _ _)
  have r3 := r1.pres P ok (by simp [keepL])
  obtain ⟨z, ez, q⟩ := po3.done
  exact hf g0 s3 r3 ez fun b H' lab' s' p' r' => q b H' lab' s' p' r'
theorem ej_slL {lo hi : Option Expr} {gl gh : List D → ER (Option Int)} (he : EJ X W Γx Γ n m1 e g k) (hl : OJ X W Γx Γ (n + 1) m2 lo gl) (hh : OJ X W Γx Γ (n + 1) m3 hi gh) (ok : okK (m2 ++ m3) (n + 1) k = true := by decide) :
    EJ X W Γx Γ n (m1 ++ (m2 ++ m3)) (.Subscript e (.Slice lo hi none p) pos) (eSl dSlL g gl gh) (.spn (labsK k)) := by
  refine sl_parts sl_list he hl hh ok fun {H lab v d z l u σD σ Q} g0 s r ez q => ?_
  unfold dSlL at ez
  split at ez
  · cases ez
    obtain ⟨fp, rp, lf⟩ := r.its rfl (Nat.le_refl n)
    cases rp with
    | lst h1 h2 =>
      obtain ⟨f, rf, sf⟩ := cut_rp h2 l u
      refine ⟨_, _, rfl, .of h1, fun q' hq => ?_⟩
      obtain ⟨P, V⟩ := mk_spn (n := n) (R := labsK k) rf (fun a ha => lf a (List.mem_cons_of_mem _ (sf.subset ha))) hq
      exact q _ _ _ (s.pres g0 P) P V
  · cases ez
    obtain ⟨fp, rp, lf⟩ := r.its rfl (Nat.le_refl n)
    cases rp with
    | lsf h1 h2 =>
      obtain ⟨f, rf, sf⟩ := cut_rp h2 l u
      refine ⟨_, _, rfl, h1.sql, fun q' hq => ?_⟩
      obtain ⟨P, V⟩ := mk_spn (n := n) (R := labsK k) rf (fun a ha => lf a (sf.subset ha)) hq
      exact q _ _ _ (s.pres g0 P) P V
  · cases ez
theorem ej_slT {lo hi : Option Expr} {gl gh : List D → ER (Option Int)} (he : EJ X W Γx Γ n m1 e g k) (hl : OJ X W Γx Γ (n + 1) m2 lo gl) (hh : OJ X W Γx Γ (n + 1) m3 hi gh) (ok : okK (m2 ++ m3) (n + 1) k = true := by decide) :
    EJ X W Γx Γ n (m1 ++ (m2 ++ m3)) (.Subscript e (.Slice lo hi none p) pos) (eSl dSlT g gl gh) (.bor (labsK k)) := by
  refine sl_parts sl_tupA he hl hh ok fun {H lab v d z l u σD σ Q} g0 s r ez q => ?_
  unfold dSlT at ez
  split at ez
  · cases ez
    obtain ⟨fp, rp, lf⟩ := r.its rfl (Nat.le_refl n)
    cases rp with
    | tup h1 h2 =>
      obtain ⟨f, rf, sf⟩ := cut_rp h2 l u
      refine ⟨_, _, rfl, h1, fun hw => ?_, fun _ q' hq => ?_⟩
      · refine q _ H _ (s.pres g0 .colF) .colF ⟨f, .tup h1 ?_, fun a ha => bw_colF (lf a (sf.subset ha))⟩
        rename_i xs vs
        have ec : cutV vs l u = vs := by
          unfold cutV
          rw [hw.1, hw.2]
          simp
        rw [ec] at rf
        exact rf
      · obtain ⟨P, V⟩ := mk_tup (n := n) (R := labsK k) rf (fun a ha => lf a (sf.subset ha)) hq
        exact q _ _ _ (s.pres g0 P) P V
  · cases ez
def dRep (x y : D) : Option D := match x, y with
  | .lst xs, .int k => if D.flats xs = true ∧ -(2 ^ 63) ≤ k ∧ k < 2 ^ 63 ∧ xs.length * k.toNat ≤ sizeLine then some (.lst (List.replicate k.toNat xs).flatten) else none
  | _, _ => none
theorem rep_rp {vs : List V} {ds : List D} (h : RpL X.K (clX X) H vs ds []) : ∀ j : Nat, RpL X.K (clX X) H (List.replicate j vs).flatten (List.replicate j ds).flatten []
  | 0 => .nil
  | j + 1 => by
    rw [List.replicate_succ, List.replicate_succ, List.flatten_cons, List.flatten_cons]
    exact h.append (rep_rp h j)
theorem ej_rep (ha : EJ X W Γx Γ n m1 a ga k) (hb : EJ X W Γx Γ (n + 1) m2 b gb k1) (ok : okK m2 (n + 1) k = true := by decide) : EJ X W Γx Γ n (m1 ++ m2) (.BinOp a .Mult b pos) (eBin dRep ga gb) .own := by
  refine pe_imp (pe_op op_rep ha hb) fun σ H Q h => ?_
  obtain ⟨σD, lab, g0, s, po⟩ := h
  refine ⟨σD, lab, g0, s, po.seq' fun x σD1 v H1 lab1 s1 p1 r1 po1 => ?_⟩
  refine ⟨σD1, lab1, gok.up g0, s1, po1.seq (SubK.up _ _) (Nat.le_succ _) (SubK.nil _ _) (Nat.le_refl _) fun y σD2 w H2 lab2 s2 p2 r2 po2 => ?_⟩
  have r1 := VR.pres p2 r1 ok (by simp [keepL])
  obtain ⟨z, e, q⟩ := po2.done
  unfold dRep at e
  split at e
  · split at e
    · rename_i hd
      cases e
      have ew := r2.int
      subst ew
      obtain ⟨fp, rp⟩ := r1.rp rfl
      cases rp with
      | lst h1 h2 =>
        have ef := RpL.flat h2 hd.1
        subst ef
        refine ⟨_, _, _, rfl, rfl, h1, hd.2.1, hd.2.2.1, by rw [h2.len]; exact hd.2.2.2, fun q' hq => ?_⟩
        have hj := fun j => rep_rp h2 j
        obtain ⟨P, V⟩ := mk_spn (n := n) (lab := lab2) (R := []) (hj _) (by simp) hq
        refine q _ _ _ (s2.pres g0 P) P ⟨[q'], .lst upd_same ((hj _).ext (TK.new hq) (by simp)), by simp, fun b hb => ?_⟩
        rw [List.mem_singleton.mp hb]
        exact if_pos rfl
    · cases e
  · cases e
end
end Ow


namespace Ow
open PySem PySem.Spec PyProof.Rows L2
mutual
def cvB (K : PySem.W.Frag) : Nat → Value → D → Bool
  | _, .int i _, .int j => decide (i = j)
  | _, .str s _, .str t => decide (s = t)
  | n + 1, .ref a, .tup ds => (match K.lookup a with
    | some o => decide (o.cls = .type "tuple") && (match o.data with
      | .seq its _ => decide (its.size ≤ 1000) && cvsB K n its.toList ds
      | _ => false)
    | none => false)
  | _, _, _ => false
def cvsB (K : PySem.W.Frag) : Nat → List Value → List D → Bool
  | _, [], [] => true
  | n, v :: vs, d :: ds => cvB K n v d && cvsB K n vs ds
  | _, _, _ => false
end
mutual
theorem cvB_ok {K : PySem.W.Frag} : ∀ (n : Nat) (v : Value) (d : D), cvB K n v d = true → ∃ x : V, RelV x v ∧ (∀ cl H, Rp K cl H x d []) ∧ d.noE = true
  | n, .int i t, .int j, h => by
    have e : i = j := by cases n <;> (simp only [cvB, decide_eq_true_eq] at h; exact h)
    exact ⟨.int j, ⟨t, by rw [e]⟩, fun _ _ => .int _, rfl⟩
  | n, .str s t, .str z, h => by
    have e : s = z := by cases n <;> (simp only [cvB, decide_eq_true_eq] at h; exact h)
    exact ⟨.str z, ⟨t, by rw [e]⟩, fun _ _ => .str _, rfl⟩
  | n + 1, .ref a, .tup ds, h => by
    simp only [cvB] at h
    cases e : K.lookup a with
    | none => rw [e] at h; cases h
    | some o =>
      rw [e] at h
      simp only [Bool.and_eq_true, decide_eq_true_eq] at h
      obtain ⟨h1, h2⟩ := h
      cases ed : o.data with
      | seq its m =>
        rw [ed] at h2
        simp only [Bool.and_eq_true, decide_eq_true_eq] at h2
        obtain ⟨xs, r1, r2⟩ := cvsB_ok n its.toList ds h2.2
        exact ⟨.ref a, rfl, fun cl H => .tup (.inr ⟨o, its, m, e, h1, ed, by rw [sizeLine_eq]; omega, r1⟩) (r2 cl H), rfl⟩
      | _ => rw [ed] at h2; cases h2
  | 0, .ref a, .tup ds, h => by simp [cvB] at h
  | n, .none, d, h => by cases n <;> cases d <;> simp [cvB] at h
  | n, .bool _, d, h => by cases n <;> cases d <;> simp [cvB] at h
  | n, .int _ _, .non, h => by cases n <;> simp [cvB] at h
  | n, .int _ _, .bl _, h => by cases n <;> simp [cvB] at h
  | n, .int _ _, .str _, h => by cases n <;> simp [cvB] at h
  | n, .int _ _, .tup _, h => by cases n <;> simp [cvB] at h
  | n, .int _ _, .lst _, h => by cases n <;> simp [cvB] at h
  | n, .int _ _, .dK _, h => by cases n <;> simp [cvB] at h
  | n, .int _ _, .dT _, h => by cases n <;> simp [cvB] at h
  | n, .int _ _, .ins _ _, h => by cases n <;> simp [cvB] at h
  | n, .int _ _, .fzl _, h => by cases n <;> simp [cvB] at h
  | n, .int _ _, .exn _ _, h => by cases n <;> simp [cvB] at h
  | n, .str _ _, .non, h => by cases n <;> simp [cvB] at h
  | n, .str _ _, .bl _, h => by cases n <;> simp [cvB] at h
  | n, .str _ _, .int _, h => by cases n <;> simp [cvB] at h
  | n, .str _ _, .tup _, h => by cases n <;> simp [cvB] at h
  | n, .str _ _, .lst _, h => by cases n <;> simp [cvB] at h
  | n, .str _ _, .dK _, h => by cases n <;> simp [cvB] at h
  | n, .str _ _, .dT _, h => by cases n <;> simp [cvB] at h
  | n, .str _ _, .ins _ _, h => by cases n <;> simp [cvB] at h
  | n, .str _ _, .fzl _, h => by cases n <;> simp [cvB] at h
  | n, .str _ _, .exn _ _, h => by cases n <;> simp [cvB] at h
  | n, .ref _, .non, h => by cases n <;> simp [cvB] at h
  | n, .ref _, .bl _, h => by cases n <;> simp [cvB] at h
  | n, .ref _, .int _, h => by cases n <;> simp [cvB] at h
  | n, .ref _, .str _, h => by cases n <;> simp [cvB] at h
  | n, .ref _, .lst _, h => by cases n <;> simp [cvB] at h
  | n, .ref _, .dK _, h => by cases n <;> simp [cvB] at h
  | n, .ref _, .dT _, h => by cases n <;> simp [cvB] at h
  | n, .ref _, .ins _ _, h => by cases n <;> simp [cvB] at h
  | n, .ref _, .fzl _, h => by cases n <;> simp [cvB] at h
  | n, .ref _, .exn _ _, h => by cases n <;> simp [cvB] at h
  | n, .bytes _ _, d, h => by cases n <;> cases d <;> simp [cvB] at h
  | n, .float _ _, d, h => by cases n <;> cases d <;> simp [cvB] at h
  | n, .type _, d, h => by cases n <;> cases d <;> simp [cvB] at h
  | n, .builtin _, d, h => by cases n <;> cases d <;> simp [cvB] at h
  | n, .ellipsis, d, h => by cases n <;> cases d <;> simp [cvB] at h
  | n, .notImplemented, d, h => by cases n <;> cases d <;> simp [cvB] at h
theorem cvsB_ok {K : PySem.W.Frag} : ∀ (n : Nat) (vs : List Value) (ds : List D), cvsB K n vs ds = true → ∃ xs : List V, Vals xs vs ∧ ∀ cl H, RpL K cl H xs ds []
  | n, [], [], _ => ⟨[], .nil, fun _ _ => .nil⟩
  | n, v :: vs, d :: ds, h => by
    simp only [cvsB, Bool.and_eq_true] at h
    obtain ⟨x, r1, r2, _⟩ := cvB_ok n v d h.1
    obtain ⟨xs, q1, q2⟩ := cvsB_ok n vs ds h.2
    exact ⟨x :: xs, .cons r1 q1, fun cl H => .cons (r2 cl H) (q2 cl H)⟩
  | n, [], _ :: _, h => by simp [cvsB] at h
  | n, _ :: _, [], h => by simp [cvsB] at h
end
def cstB (K : PySem.W.Frag) (x : Str) (d : D) : Bool := match PySem.W.nsIn K mainGlobals x with
  | some (some v) => cvB K 3 v d
  | _ => false
/-- what a head's look asks: the exceptions' classes, the constants -/
def mB (cs : List (Str × D)) (K : PySem.W.Frag) : Bool := exB K && cs.all fun p => cstB K p.1 p.2
def Cst (K : PySem.W.Frag) (mg : Str → Option Value) (x : Str) (d : D) : Prop := ∃ (v : Value) (w : V), mg x = some v ∧ RelV w v ∧ ∀ cl H, Rp K cl H w d []
structure Faz (fa : List He.Fa) (fn : List He.DefD) (cs : List (Str × D)) (K : PySem.W.Frag) (mg : Str → Option Value) : Prop extends Fax fa fn K mg where
  cst : ∀ (i : Nat) {x : Str} {d : D}, cs[i]? = some (x, d) → Cst K mg x d
theorem faz_of {fa : List He.Fa} {fn : List He.DefD} {cs : List (Str × D)} {w : World} {h : Heap} {K : PySem.W.Frag} {mg : Str → Option Value} (X : K.In h) (G : h.Ns mainGlobals mg) (c : He.SaysX fa fn [] [] (mB cs) w h K) : Faz fa fn cs K mg := by
  have hm := Bool.and_eq_true_iff.mp c.more
  refine { s := c.t.d, x := exB_ok X G hm.1, glo := fun i x e => He.glo_ok X G (c.t.d.fact i e), free := fun i x e => He.free_ok X G (c.t.d.fact i e), cst := fun i x d e => ?_ }
  have hp := List.all_eq_true.mp hm.2 (x, d) (List.mem_of_getElem? e)
  unfold cstB at hp
  dsimp only at hp
  split at hp
  · rename_i v ev
    obtain ⟨y, r1, r2, _⟩ := cvB_ok 3 v d hp
    exact ⟨v, y, PySem.W.mg_of X G ev, r1, r2⟩
  · cases hp
section
variable {X : Cx} {W : WX} {Z : SC} {Γx Γ Γ' : Ctx} {n r : Nat} {m m1 m2 m3 : List Nat} {σ : St} {H : Hp} {lab : Labs} {σD : List D} {pos p px apos ipos : Pos} {R : List Lab} {k k1 : Kd} {ks : List AK} {gs : List D → ER (List D)} {tg e ie : Expr} {x : Str} {g gi : List D → ER D}
theorem ej_cst {d : D} (c : Cst X.K X.mg x d) (hg : Gl X x := by rfl) (hdb : (x == ("__debug__" : Str)) = false := by decide) : EJ X W Γx Γ n [] (.Name x pos) (eC d) .own := by
  obtain ⟨v, w, h1, h2, h3⟩ := c
  exact ej_c (pe_glob hg h1 h2 hdb) fun H => h3 _ H
theorem SR.mut2 {a : Addr} {v : V} {u o : HO} {f' fz : List Addr} {d' : D} (s : SR X Γ σ H lab σD) (g : gok Γ n = true) (hb : noBor Γ r = true) (hΓ : Γ[r]? = some (some .own)) (hσ : σ[r]? = some (some v)) (ha : H a = some u) (mu : isMut u)
    (rp : Rp X.K (clX X) (upd H a o) v d' f') (nd : (f' ++ fz).Nodup) (hl : ∀ b ∈ a :: (f' ++ fz), lab b = .slt r ∨ ∃ j, n ≤ j ∧ lab b = .tmp j) :
    SR X Γ σ (upd H a o) (labMut r n f' fz lab) (σD.set r d') ∧ Pres [r] n H lab (upd H a o) (labMut r n f' fz lab) := by
  have nk : ∀ b ∈ a :: (f' ++ fz), keepL [r] n (lab b) = false := fun b hb => by
    rcases hl b hb with e | ⟨j, hj, e⟩
    · rw [e]; simp [keepL]
    · rw [e]; simp [keepL]; omega
  have P1 : Pres [r] n H lab (upd H a o) lab := .mut ha mu (nk a List.mem_cons_self)
  have P2 : Pres [r] n (upd H a o) lab (upd H a o) (labMut r n f' fz lab) := .relab (fun b hk => by
    unfold labMut
    rw [if_neg (fun z => by rw [nk b (List.mem_cons_of_mem _ (List.mem_append_right _ z))] at hk; exact Bool.noConfusion hk), if_neg (fun z => by rw [nk b (List.mem_cons_of_mem _ (List.mem_append_left _ z))] at hk; exact Bool.noConfusion hk)]) fun b ho => by
    unfold labMut at ho ⊢
    split at ho
    · cases ho
    · rename_i h1
      split at ho
      · cases ho
      · rename_i h2
        rw [if_neg h1, if_neg h2]
  have P := P1.trans P2 (SubK.refl _ _) (SubK.refl _ _)
  refine ⟨⟨s.l1, by rw [List.length_set]; exact s.l2, fun i k e => ?_⟩, P⟩
  obtain ⟨w, d, h1, h2, h3⟩ := s.at_ i k e
  by_cases ne : i = r
  · subst ne
    rw [hσ] at h1
    cases h1
    rw [hΓ] at e
    cases e
    refine ⟨v, d', hσ, List.getElem?_set_self (List.getElem?_eq_some_iff.mp h2).1, f', rp, (List.nodup_append.mp nd).1, fun b hb => ?_⟩
    unfold labMut
    rw [if_neg fun z => (List.nodup_append.mp nd).2.2 b hb b z rfl, if_pos hb]
  · obtain ⟨g1, g2⟩ := noBor.at_ hb g e ne
    exact ⟨w, d, h1, by rw [List.getElem?_set_ne (Ne.symm ne)]; exact h2, h3.pres P g1 g2⟩
/-- one item is changed within -/
theorem RpL.mutAt {K : PySem.W.Frag} {cl : CE} : ∀ {vs : List V} {ds : List D} {fp : List Addr} {q : Nat} {d : D}, RpL K cl H vs ds fp → fp.Nodup → ds[q]? = some d →
    ∃ v fq, vs[q]? = some v ∧ Rp K cl H v d fq ∧ fq.Nodup ∧ (∀ b ∈ fq, b ∈ fp) ∧ ∀ (b : Addr) (o : HO) (c : D) (f' : List Addr), b ∈ fq → (∃ u, H b = some u ∧ isMut u) → Rp K cl (upd H b o) v c f' → f'.Nodup → (∀ x ∈ f', x ∈ fq ∨ x ∉ fp) →
      ∃ F, RpL K cl (upd H b o) vs (ds.set q c) F ∧ F.Nodup ∧ ∀ x ∈ F, x ∈ f' ∨ (x ∈ fp ∧ x ∉ fq)
  | _, _, _, _, _, .nil, _, e => by simp at e
  | _, _, _, 0, _, .cons (f1 := f1) (f2 := f2) h rr, nd, e => by
    simp at e; subst e
    rw [List.nodup_append] at nd
    refine ⟨_, f1, rfl, h, nd.1, fun b hb => List.mem_append_left _ hb, fun b o c f' hb hu rc ndc hs => ⟨f' ++ f2, ?_, ?_, fun x hx => ?_⟩⟩
    · exact .cons rc (rr.disj (fun z => nd.2.2 b hb b z rfl) hu)
    · rw [List.nodup_append]
      refine ⟨ndc, nd.2.1, fun x hx y hy e => ?_⟩
      subst e
      rcases hs x hx with z | z
      · exact nd.2.2 x z x hy rfl
      · exact z (List.mem_append_right _ hy)
    · rcases List.mem_append.mp hx with z | z
      · exact .inl z
      · exact .inr ⟨List.mem_append_right _ z, fun q => nd.2.2 x q x z rfl⟩
  | _, _, _, q + 1, _, .cons (f1 := f1) (f2 := f2) h rr, nd, e => by
    rw [List.nodup_append] at nd
    obtain ⟨v, fq, e1, r1, n1, s1, key⟩ := RpL.mutAt (q := q) rr nd.2.1 (by simpa using e)
    refine ⟨v, fq, by simpa using e1, r1, n1, fun b hb => List.mem_append_right _ (s1 b hb), fun b o c f' hb hu rc ndc hs => ?_⟩
    obtain ⟨F, rF, nF, sF⟩ := key b o c f' hb hu rc ndc fun x hx => (hs x hx).elim .inl fun z => .inr fun y => z (List.mem_append_right _ y)
    have dj : ∀ x ∈ f1, x ∉ fq := fun x hx z => nd.2.2 x hx x (s1 x z) rfl
    refine ⟨f1 ++ F, .cons (h.disj (fun z => dj b z hb) hu) rF, ?_, fun x hx => ?_⟩
    · rw [List.nodup_append]
      refine ⟨nd.1, nF, fun x hx y hy e => ?_⟩
      subst e
      rcases sF x hy with z | z
      · rcases hs x z with z | z
        · exact dj x hx z
        · exact z (List.mem_append_left _ hx)
      · exact nd.2.2 x hx x z.1 rfl
    · rcases List.mem_append.mp hx with z | z
      · exact .inr ⟨List.mem_append_left _ z, dj x z⟩
      · exact (sF x z).elim .inl fun y => .inr ⟨List.mem_append_right _ y.1, y.2⟩
theorem mutAt_fin {rr : V → List V → Hp → VK → Prop} {f : D → List D → Option (D × D)} (mo : MutR X rr f) (hr : Γ[r]? = some (some .own)) (hb : noBor Γ r = true) (ho : ks.all ownA = true) (g0 : gok Γ n = true) {as ds : List D} {xs vs : List V} {v : V} {a : Addr} {i : Nat} {c z : D} (s : SR X Γ σ H lab σD) (hσ : σ[r]? = some (some (.ref a))) (hH : H a = some (.lst vs)) (hv : vs[i]? = some v)
    (ar : AR X σ σD H lab n ks xs as) (eD : σD.getD r .non = .lst ds) (e : f (ds.getD i .non) as = some (c, z)) :
    ∃ H' lab' zv, H' a = some (.lst vs) ∧ SR X Γ σ H' lab' (σD.set r (.lst (ds.set i c))) ∧ Pres [r] n H lab H' lab' ∧ VR X.K (clX X) H' lab' .own (.tmp n) zv z ∧ ∀ Q : VK, Q zv H' → rr v xs H Q := by
  obtain ⟨v', hv', r3⟩ := s.get hr
  rw [hσ] at hv'
  cases hv'
  rw [eD] at r3
  obtain ⟨a', vs', fp, ea, hH', rl, na, nd, la, lf⟩ := r3.own_lst
  cases ea
  rw [hH] at hH'
  cases hH'
  have hlt : i < ds.length := by rw [← rl.len]; exact (List.getElem?_eq_some_iff.mp hv).1
  have ed : ds[i]? = some (ds.getD i .non) := by rw [List.getD_eq_getElem?_getD, List.getElem?_eq_getElem hlt]; rfl
  obtain ⟨w, fq, e1, r1, n1, s1, key⟩ := rl.mutAt nd ed
  rw [hv] at e1
  cases e1
  obtain ⟨fa, ra, nda, lfa⟩ := ar.own ho
  have dj : ∀ b ∈ fa, b ∉ fp := fun b hb' z => by
    obtain ⟨j, _, e⟩ := lfa b hb'
    rw [lf b z] at e; cases e
  have nafa : a ∉ fa := fun z => by
    obtain ⟨j, _, e⟩ := lfa a z
    rw [la] at e; cases e
  obtain ⟨b, u, o, zv, f', fz, rfl, hu, mu, hbq, rc, rz, ndc, hsub, hQ⟩ := mo _ _ _ _ e H v fq xs fa r1 n1 ra nda fun b hb' z => dj b hb' (s1 b z)
  have hsub' : ∀ x ∈ f' ++ fz, x ∈ fq ∨ x ∉ fp := fun x hx => (hsub x hx).elim .inl fun z => .inr (dj x z)
  obtain ⟨F, rF, nF, sF⟩ := key b o c f' hbq ⟨u, hu, mu⟩ rc (List.nodup_append.mp ndc).1 fun x hx => hsub' x (List.mem_append_left _ hx)
  have hba : b ≠ a := fun z => na (z ▸ s1 b hbq)
  have hA : upd H b o a = some (.lst vs) := by rw [upd_ne (Ne.symm hba)]; exact hH
  have naF : a ∉ F := fun z => (sF a z).elim (fun y => (hsub a (List.mem_append_left _ y)).elim (fun q => na (s1 a q)) nafa) fun y => na y.1
  have nafz : a ∉ fz := fun y => (hsub a (List.mem_append_right _ y)).elim (fun q => na (s1 a q)) nafa
  have djz : ∀ x ∈ F, ∀ y ∈ fz, x ≠ y := fun x hx y hy e => by
    subst e
    rcases sF x hx with q | q
    · exact (List.nodup_append.mp ndc).2.2 x q x hy rfl
    · rcases hsub x (List.mem_append_right _ hy) with w | w
      · exact q.2 w
      · exact dj x w q.1
  have ndF : (a :: F ++ fz).Nodup := by
    rw [List.cons_append, List.nodup_cons, List.nodup_append, List.mem_append]
    exact ⟨fun q => q.elim naF nafz, nF, (List.nodup_append.mp ndc).2.1, djz⟩
  have lF : ∀ x ∈ F, lab x = .slt r ∨ ∃ j, n ≤ j ∧ lab x = .tmp j := fun x hx => by
    rcases sF x hx with q | q
    · rcases hsub x (List.mem_append_left _ q) with w | w
      · exact .inl (lf x (s1 x w))
      · exact .inr (lfa x w)
    · exact .inl (lf x q.1)
  obtain ⟨s3, p3⟩ := s.mut2 (a := b) (f' := a :: F) (fz := fz) (d' := .lst (ds.set i c)) g0 hb hr hσ hu mu (.lst hA rF) ndF (fun x hx => by
    rcases List.mem_cons.mp hx with q | q
    · exact .inl (by rw [q]; exact lf b (s1 b hbq))
    · rcases List.mem_append.mp q with q | q
      · rcases List.mem_cons.mp q with q | q
        · exact .inl (by rw [q]; exact la)
        · exact lF x q
      · rcases hsub x (List.mem_append_right _ q) with w | w
        · exact .inl (lf x (s1 x w))
        · exact .inr (lfa x w))
  refine ⟨_, _, zv, hA, s3, p3, ⟨fz, rz, (List.nodup_append.mp ndc).2.1, fun x hx => ?_⟩, hQ⟩
  unfold labMut
  rw [if_pos hx]
end
end Ow


namespace Law
open PySem PySem.Spec PySem.SeqAt PyProof.Rows L2 Ow
def top (i : Nat) : Stmt := PySem.Challenge.pw_rolldiscs_k39_fewest_known.main.body.getD i (.Pass ⟨0, 0, 0, 0⟩)
def dd (i : Nat) (x : Str) : He.DefD := ⟨(x, none), x, x, defArgs (top i), defBody (top i), defScope (top i), [], []⟩
def topm (i j : Nat) : Stmt := match top i with
  | .ClassDef _ _ _ b _ _ _ _ _ _ _ => b.getD j (.Pass ⟨0, 0, 0, 0⟩)
  | _ => .Pass ⟨0, 0, 0, 0⟩
def ddm (i j : Nat) (c m q : Str) : He.DefD := ⟨(c, some m), m, q, defArgs (topm i j), defBody (topm i j), defScope (topm i j), [], []⟩
def ddA (i : Nat) (x y : Str) : He.DefD := ⟨(x, none), y, y, defArgs (top i), defBody (top i), defScope (top i), [], []⟩
def fn : List He.DefD := [dd 37 "_law_bag", dd 38 "_law_take", dd 41 "_law_chain", dd 43 "_law_circling", dd 42 "_law_growing", dd 40 "_law_turned", dd 44 "_law_renamed", dd 33 "first_lead", dd 7 "shared", dd 8 "fraction", dd 10 "less", dd 12 "over", dd 11 "times", dd 32 "row_less", dd 34 "determinant", dd 19 "discs_of", dd 15 "is_source", dd 20 "is_even", dd 27 "look_even", dd 30 "square_from", dd 9 "plus", dd 13 "whole", dd 22 "term_along", dd 24 "further_term", dd 16 "drives_of", dd 17 "may_stand", dd 18 "order_of", dd 25 "series_of", dd 29 "worths_of", dd 31 "square_of", dd 35 "fewest", dd 45 "law"]
def fa : List He.Fa := [.glo "_law_bag", .glo "_law_take", .glo "_law_chain", .glo "_law_circling", .glo "_law_growing", .glo "_law_turned", .glo "_law_renamed", .glo "first_lead", .glo "shared", .glo "fraction", .glo "less", .glo "over", .glo "times", .glo "row_less", .glo "determinant", .glo "discs_of", .glo "is_source", .glo "is_even", .glo "look_even", .glo "square_from", .glo "plus", .glo "whole", .glo "term_along", .glo "further_term", .glo "drives_of", .glo "may_stand", .glo "order_of", .glo "series_of", .glo "worths_of", .glo "square_of", .glo "fewest", .glo "law", .free "len", .free "abs", .free "int", .free "range", .free "min", .free "list", .free "enumerate", .glo "NoFraction", .free "zip", .free "all", .glo "NotEven", .free "max"]
def cs : List (Str × D) := [("NOUGHT", .tup [.int 0, .int 1]), ("ONE", .tup [.int 1, .int 1])]
def loose0 : List Str := ["RollError", "NoFraction", "NotEven", "NOUGHT", "ONE", "shared", "fraction", "plus", "less", "times", "over", "whole"]
def loose1 : List Str := ["is_source", "drives_of", "may_stand", "order_of", "discs_of", "is_even", "term_along", "further_term", "series_of", "look_even", "worths_of", "square_from"]
def loose2 : List Str := ["square_of", "row_less", "first_lead", "determinant", "fewest", "_law_bag", "_law_take", "_law_low", "_law_turned", "_law_chain", "_law_growing", "_law_circling"]
def loose3 : List Str := ["_law_renamed"]
def loose : List Str := loose0 ++ loose1 ++ loose2 ++ loose3
section
open PySem PySem.Spec PySem.SeqAt PyProof.Rows L2 Ow
abbrev R : PySem.W.OpenRow := PySem.W.OpenLaw.row PySem.Challenge.rw_rolldiscs_k39_fewest_known
abbrev hk : PySem.W.Hook := He.hookX 4 fa fn [] [] (mB cs)
def ob (s : PySem.W.SharedT) : He.AlX := He.obsX 4 fa fn [] [] (mB cs) (HandSHeadRun.getT s)
theorem ob_eq (s : PySem.W.SharedT) : ob s = hk.obs s.abs := He.obsX_eq (HandSHeadRun.getT_eq s)
theorem map6 {α β γ δ ε ζ η : Type} {x : Option α} {f : α → β} {g : α → γ} {o : α → ((δ × ε) × ζ) × η} {a : β} {b : γ} {p : δ} {q : ε} {r : ζ} {t : η} (h1 : x.map f = some a) (h2 : x.map g = some b) (h3 : x.map (fun s => (o s).1.1.1) = some p) (h4 : x.map (fun s => (o s).1.1.2) = some q) (h5 : x.map (fun s => (o s).1.2) = some r) (h6 : x.map (fun s => (o s).2) = some t) : x.map (fun s => (f s, g s, o s)) = some (a, b, ((p, q), r), t) := by
  cases x with
  | none => cases h1
  | some s =>
    have d1 : f s = a := Option.some.inj h1
    have d2 : g s = b := Option.some.inj h2
    have e3 := Option.some.inj h3
    have e4 := Option.some.inj h4
    have e5 := Option.some.inj h5
    have e6 := Option.some.inj h6
    have d3 : o s = (((p, q), r), t) := Prod.ext (Prod.ext (Prod.ext e3 e4) e5) e6
    show some (f s, g s, o s) = _
    rw [d1, d2, d3]
section
open PySem PySem.W PySem.Calls PyProof.Rows L2 Ow HandSHeadRun
theorem runB (w : World) : ∀ os : OsState, (endF (stepQ (denQ tabQ) R.prog w) 15000 R.prog w os).map (fun s => looksF R.prog (boot_heap w.params) s.abs) = some true := by
  intro os
  kernel_rfl
theorem runC (w : World) : ∀ os : OsState, (endF (stepQ (denQ tabQ) R.prog w) 15000 R.prog w os).map (fun s => seenQ (PySem.W.view R.prog [45]) loose (importedModules R.prog.main.body) (fun s => xlAt (PySem.W.view R.prog [45]) [] s && recOk R.toRowW.records s) s.abs) = some (openGood (PySem.W.view R.prog [45]) loose) := by
  intro os
  kernel_rfl
theorem runD (w : World) : ∀ os : OsState, (endF (stepQ (denQ tabQ) R.prog w) 15000 R.prog w os).map (fun s => (ob s).1.1.1) = some true := by
  intro os
  kernel_rfl
theorem runE (w : World) : ∀ os : OsState, (endF (stepQ (denQ tabQ) R.prog w) 15000 R.prog w os).map (fun s => (ob s).1.1.2) = some (fn.map He.DefD.val) := by
  intro os
  kernel_rfl
theorem runF (w : World) : ∀ os : OsState, (endF (stepQ (denQ tabQ) R.prog w) 15000 R.prog w os).map (fun s => (ob s).1.2) = some [] := by
  intro os
  kernel_rfl
theorem runG (w : World) : ∀ os : OsState, (endF (stepQ (denQ tabQ) R.prog w) 15000 R.prog w os).map (fun s => (ob s).2) = some true := by
  intro os
  kernel_rfl
end
theorem run (w : World) : HandSHeadRun.RunEq R (PySem.W.view R.prog [45]) hk ob 15000 loose w := fun os => map6 (runB w os) (runC w os) (runD w os) (runE w os) (runF w os) (runG w os)
end
end Law

namespace Ow
open PySem PySem.Spec PyProof.Rows L2
section
variable {X : Cx} {W : WX} {Z : SC} {Γx Γ Γ' : Ctx} {n r x : Nat} {m m1 m2 m3 : List Nat} {σ : St} {H : Hp} {lab : Labs} {σD : List D} {pos p px apos ipos tpos : Pos} {R : List Lab} {k k1 : Kd} {ks : List AK} {gs : List D → ER (List D)} {tg e ie : Expr} {nx : Str} {g gi : List D → ER D}
def eMutIx (T : String) (r : Nat) (f : D → List D → Option (D × D)) (gi : List D → ER D) (gs : List D → ER (List D)) : List D → ER D := fun σ => (gi σ).bind fun i σ1 => match σ1.getD r .non, i with
  | .lst ds, .int j => (match ixN ds.length j with
    | some q => if isTy T (ds.getD q .non) = true then (gs σ1).bind fun as σ2 => (match σ2.getD r .non with
      | .lst ds2 => (match f (ds2.getD q .non) as with
        | some (c, z) => .ok z (σ2.set r (.lst (ds2.set q c)))
        | none => .stuck)
      | _ => .stuck) else .stuck
    | none => .stuck)
  | _, _ => .stuck
theorem mutIx_imp {T : String} {rr : V → List V → Hp → VK → Prop} {f : D → List D → Option (D × D)} {ta : TA} {ix : V → V → Hp → VK → Prop} {Q : VK} (mo : MutR X rr f) (hr : Γ[r]? = some (some .own)) (hb : noBor Γ r = true) (ho : ks.all ownA = true) (hm : m2.contains r = false)
    (hix : ∀ a vs j q v H (Q : VK), H a = some (.lst vs) → ixN vs.length j = some q → vs[q]? = some v → Q v H → ix (.ref a) (.int j) H Q)
    (hta : ∀ σ H Q, rdA X W Γx Γ n m2 ks gs σ H Q → ta σ H Q) (h : rdE X W Γx Γ n (m1 ++ (m2 ++ [r])) .own (eMutIx T r f gi gs) σ H Q) :
    tVar r σ H fun v H0 => rdE X W Γx Γ n m1 k gi σ H0 fun y H1 => ix v y H1 fun w H2 => tyV X.K T w H2 ∧ ta σ H2 fun xs H3 => rr w xs H3 Q := by
  obtain ⟨σD, lab, g0, s, po⟩ := h
  obtain ⟨v, hv, _⟩ := s.get hr
  refine ⟨v, hv, σD, lab, g0, s, po.seq' fun i σD1 iv H1 lab1 s1 p1 r1 po1 => ?_⟩
  obtain ⟨v', hv', r3⟩ := s1.get hr
  rw [hv] at hv'
  cases hv'
  cases ec : σD1.getD r .non with
  | lst ds =>
    cases i with
    | int j =>
      rw [ec] at po1 r3
      dsimp only at po1
      have ej := r1.int
      subst ej
      obtain ⟨a, vs, fp, rfl, hH, rl, na, nd, la, lf⟩ := r3.own_lst
      cases eq : ixN ds.length j with
      | none => rw [eq] at po1; exact po1.elim
      | some q =>
        rw [eq] at po1
        dsimp only at po1
        have hlt := ixN_lt eq
        have hvq : vs[q]? = some (vs[q]'(by rw [rl.len]; exact hlt)) := List.getElem?_eq_getElem _
        have edq : ds[q]? = some (ds.getD q .non) := by rw [List.getD_eq_getElem?_getD, List.getElem?_eq_getElem hlt]; rfl
        refine hix a vs j q _ H1 _ hH (by rw [rl.len]; exact eq) hvq ?_
        by_cases ht : isTy T (ds.getD q .non) = true
        · rw [if_pos ht] at po1
          obtain ⟨w, fw, e1, rw', _⟩ := rl.get edq
          rw [hvq] at e1
          cases e1
          refine ⟨rw'.ty ht, hta _ _ _ ⟨σD1, lab1, g0, s1, po1.seq' fun as σD2 xs H2 lab2 s2 p2 ar po2 => ?_⟩⟩
          cases e2 : σD2.getD r .non with
          | lst ds2 =>
            rw [e2] at po2
            dsimp only at po2
            cases e3 : f (ds2.getD q .non) as with
            | none => rw [e3] at po2; exact po2.elim
            | some cz =>
              obtain ⟨c, z⟩ := cz
              rw [e3] at po2
              have hH2 : H2 a = some (.lst vs) := (p2.keep a (by rw [hH]; simp) (by rw [la]; simpa [keepL] using hm)).1.trans hH
              obtain ⟨H', lab', zv, hA, s3, p3, vz, hQ⟩ := mutAt_fin mo hr hb ho g0 s2 hv hH2 hvq ar e2 e3
              exact hQ Q (po2 zv H' lab' s3 p3 vz)
          | _ => rw [e2] at po2; exact po2.elim
        · rw [if_neg ht] at po1; exact po1.elim
    | _ => rw [ec] at po1; exact po1.elim
  | _ => rw [ec] at po1; exact po1.elim
theorem ix_lst {a : Addr} {vs : List V} {j : Int} {q : Nat} {v : V} {H : Hp} {Q : VK} (hH : H a = some (.lst vs)) (hq : ixN vs.length j = some q) (hv : vs[q]? = some v) (hQ : Q v H) : rIx X.K (.ref a) (.int j) H Q := .inl ⟨a, vs, j, v, rfl, rfl, .of hH, by unfold L2.atI; rw [hq]; exact hv, hQ⟩
theorem ej_appendIx (hx : PE X (.Name nx px) (tVar r)) (hi : EJ X W Γx Γ n m1 ie gi k) (ha : AJ X W Γx Γ n m2 [e] gs ks) (hr : Γ[r]? = some (some .own) := by rfl) (hb : noBor Γ r = true := by decide) (ho : ks.all ownA = true := by rfl) (hm : m2.contains r = false := by decide)
    (hsl : PlainIx ie := by exact fun _ _ => rfl)
    (hbase : attributeBase (.Subscript (.Name nx px) ie ipos) "append" X.env (eval (.Subscript (.Name nx px) ie ipos) X.env) = eval (.Subscript (.Name nx px) ie ipos) X.env := by rfl)
    (hfew : ((backTo pos (starEach (e :: []) X.env)).all (fun x => !x.1) && (backToKw pos (keywordEach [] X.env)).all (fun x => x.1.isSome)
      && decide ((e :: ([] : List Expr)).length + ([] : List Keyword).length + (if ([] : List Keyword).isEmpty then 0 else 1) < 30)) = true := by rfl)
    (hline : (apos.endLine == pos.line) = true := by rfl) (hs : starEach (e :: []) X.env = (false, eval e X.env) :: starEach [] X.env := by rfl) (hplain : (backTo pos (starEach [] X.env)).any (·.1) = false := by rfl) :
    EJ X W Γx Γ n (m1 ++ (m2 ++ [r])) (.Call (.Attribute (.Subscript (.Name nx px) ie ipos) "append" apos) [e] [] pos) (eMutIx "list" r mAppend gi gs) .own :=
  pe_imp (pe_bm PySem.F.plainAttrs_list PySem.F.slot_list_append PySem.F.type_list_append mt_append (pe_ix ix_seq hx hi hsl) ha hbase hfew hline hs hplain) fun σ H Q h => mutIx_imp mo_append hr hb ho hm (fun a vs j q v H Q h1 h2 h3 h4 => ix_lst h1 h2 h3 h4) (fun _ _ _ q => q) h
end
end Ow


namespace Ow
open PySem PySem.Spec PyProof.Rows L2
section
variable {X : Cx} {W : WX} {Z : SC} {Γx Γ Γ' : Ctx} {n r : Nat} {m m1 m2 m3 : List Nat} {σ : St} {H : Hp} {lab : Labs} {σD : List D} {pos p px apos cpos ipos tpos : Pos} {R : List Lab} {k k1 : Kd} {ks : List AK} {gs : List D → ER (List D)} {tg e ie a b : Expr} {x : Str} {g gi ga gb gv gk : List D → ER D}
def tListKeys (td : TE) : TE := fun σ H Q => td σ H fun x H1 => ∃ d kvs, x = .ref d ∧ H1 d = some (.dK kvs) ∧ ∀ q, H1 q = none → Q (.ref q) (upd H1 q (.lst (kvs.map fun kv => kV kv.1)))
theorem pe_listKeys {td : TE} (hc : X.calm = true) (hg : Gl X "list") (hm : X.mg "list" = none) (he : PE X e td) (hbase : attributeBase e "keys" X.env (eval e X.env) = eval e X.env := by rfl) (hline : (apos.endLine == cpos.line) = true := by rfl)
    (hs : starEach [.Call (.Attribute e "keys" apos) [] [] cpos] X.env = (false, eval (.Call (.Attribute e "keys" apos) [] [] cpos) X.env) :: starEach [] X.env := by rfl) :
    PE X (.Call (.Name "list" p) [.Call (.Attribute e "keys" apos) [] [] cpos] [] pos) (tListKeys td) := by
  constructor
  intro pins s σ H Q I h
  refine Call_ (ld_blt I hg hm (u := .type "list") (by decide +kernel) (PyProof.Rows.callWith_type1 (args_cons (wpAny_Call_method (T := "dict") (id := "dict.keys") hbase rfl hline F.plainAttrs_dict F.slot_dict_keys F.type_dict_keys (thn (he.run pins s σ H _ I h) ?_)) hs) hs rfl))
  rintro u s1 ⟨_, H1, I1, rx, d, kvs, rfl, hd, q⟩
  match u, rx with
  | _, rfl =>
    -- the dict as it lies; the view upon its keys; the view drawn into a list
    obtain ⟨_, rows, vs0, _, lies⟩ := (show ObjOk X.prog X.w H1 s1.heap d (.dK kvs) from I1.hok d _ hd)
    refine ⟨lies.typeIs, lies.mapOf.noDict, method_meetsIn F.slot_dict_keys F.entry_dict_keys rfl (PySem.evalArgs_none ⟨rfl, lies.typeIs, F.args_dict_keys_1 _, _, PySem.W.kdl_meets_keys (mixKind X.prog X.w) d rows, ⟨vs0, lies⟩, args_nil ?_⟩)⟩
    have viewed : Inv X pins σ H1 { s1 with heap := s1.heap.push { cls := .type "dict_keys", data := .fields #[.ref d] } } := I1.kept (t' := s1.toks) fun _ _ e => Heap.get?_push_of_some _ e
    obtain ⟨few, _, vs, pairs, lies2⟩ := (show ObjOk X.prog X.w H1 _ d (.dK kvs) from viewed.hok d _ hd)
    obtain ⟨ep, at_⟩ := lies2.dictAt
    have names : (kvs.map fun kv => kV kv.1) = vs.map fun p => kV p.1 := by
      have := congrArg (List.map kV) (KV.keys pairs)
      rwa [List.map_map, List.map_map] at this
    have many : kvs.length = vs.length := by simpa using congrArg List.length names
    refine PySem.W.kdl_call (PySem.W.kdl_keys (r := s1.heap.objs.size) (knd := mixKind X.prog X.w) (kvs := vs) (ep := ep)) (I.ok.hd hc) ⟨⟨_, Heap.get?_push_size _ rfl, rfl, rfl⟩, at_⟩ (many ▸ few) fun h' tk drawn c' kept fresh each => ?_
    refine ⟨.ref _, upd H1 _ (.lst (kvs.map fun kv => kV kv.1)), viewed.laid kept (Nat.le_refl _) (show ObjOk X.prog X.w _ _ _ (.lst (kvs.map fun kv => kV kv.1)) from ⟨by simpa using few, drawn.toList, c', ?_, by simpa using fresh⟩), rfl, q _ (viewed.hok.fresh (Nat.le_refl _))⟩
    rw [names]
    refine vals_of_at (by simp [each.1]) fun i x v hx hv => ?_
    obtain ⟨k, y, hk, is⟩ := each.2 i v (by simpa using hv)
    rw [List.getElem?_map, hk] at hx
    cases hx
    exact keyIs_rel is
end
section
variable {κ : Type} [DecidableEq κ]
def dFind (kds : List (κ × D)) (k : κ) : Option D := (kds.find? fun kv => decide (kv.1 = k)).map (·.2)
def dPut (kds : List (κ × D)) (k : κ) (d : D) : List (κ × D) :=
  if (kds.any fun kv => decide (kv.1 = k)) = true then kds.map (fun kv => if kv.1 = k then (kv.1, d) else kv) else kds ++ [(k, d)]
theorem any_keys {kvs : List (κ × V)} {kds : List (κ × D)} (h : kvs.map (·.1) = kds.map (·.1)) (k : κ) : (kvs.any fun kv => decide (kv.1 = k)) = kds.any fun kv => decide (kv.1 = k) := by
  have e1 : (kvs.any fun kv => decide (kv.1 = k)) = (kvs.map (·.1)).any fun x => decide (x = k) := by rw [List.any_map]; rfl
  have e2 : (kds.any fun kv => decide (kv.1 = k)) = (kds.map (·.1)).any fun x => decide (x = k) := by rw [List.any_map]; rfl
  rw [e1, e2, h]
variable {K : PySem.W.Frag} {cl : CE} {H : Hp}
theorem find_rp : ∀ {kvs : List (κ × V)} {kds : List (κ × D)} {fp : List Addr}, kvs.map (·.1) = kds.map (·.1) → RpL K cl H (kvs.map (·.2)) (kds.map (·.2)) fp → ∀ k : κ,
    (valV kvs k = none ∧ dFind kds k = none) ∨ ∃ v d f, valV kvs k = some v ∧ dFind kds k = some d ∧ Rp K cl H v d f ∧ f.Sublist fp
  | [], [], _, _, _, k => .inl ⟨rfl, rfl⟩
  | [], _ :: _, _, h, _, _ => by simp at h
  | _ :: _, [], _, h, _, _ => by simp at h
  | p :: kvs, q :: kds, fp, h, r, k => by
    simp only [List.map_cons, List.cons.injEq] at h
    rw [List.map_cons, List.map_cons] at r
    obtain ⟨v, ws, f1, f2, e1, e2, r1, r2⟩ := r.cons_inv
    cases e1
    subst e2
    by_cases z : q.1 = k
    · refine .inr ⟨p.2, q.2, f1, valV_pos (h.1.trans z), ?_, r1, List.sublist_append_left _ _⟩
      simp [dFind, List.find?_cons, z]
    · have e3 : dFind (q :: kds) k = dFind kds k := by simp [dFind, List.find?_cons, z]
      rw [valV_neg (p := p) (by rw [h.1]; exact z), e3]
      rcases find_rp h.2 r2 k with q | ⟨v, d, f, a, b, c, e⟩
      · exact .inl q
      · exact .inr ⟨v, d, f, a, b, c, e.trans (List.sublist_append_right _ _)⟩
theorem repl_rp {k : κ} {w : V} {d : D} (hw : Rp K cl H w d []) : ∀ {kvs : List (κ × V)} {kds : List (κ × D)} {fp : List Addr}, kvs.map (·.1) = kds.map (·.1) → RpL K cl H (kvs.map (·.2)) (kds.map (·.2)) fp →
    ∃ f, RpL K cl H ((kvs.map fun kv => if kv.1 = k then (kv.1, w) else kv).map (·.2)) ((kds.map fun kv => if kv.1 = k then (kv.1, d) else kv).map (·.2)) f ∧ f.Sublist fp ∧ (kvs.map fun kv => if kv.1 = k then (kv.1, w) else kv).map (·.1) = (kds.map fun kv => if kv.1 = k then (kv.1, d) else kv).map (·.1)
  | [], [], _, _, r => ⟨_, r, List.Sublist.refl _, rfl⟩
  | [], _ :: _, _, h, _ => by simp at h
  | _ :: _, [], _, h, _ => by simp at h
  | p :: kvs, q :: kds, fp, h, r => by
    simp only [List.map_cons, List.cons.injEq] at h
    rw [List.map_cons, List.map_cons] at r
    obtain ⟨v, ws, f1, f2, e1, e2, r1, r2⟩ := r.cons_inv
    cases e1
    subst e2
    obtain ⟨f, a, b, c⟩ := repl_rp hw h.2 r2
    by_cases z : q.1 = k
    · refine ⟨f, ?_, b.trans (List.sublist_append_right _ _), ?_⟩
      · rw [List.map_cons, List.map_cons, List.map_cons, List.map_cons, if_pos (h.1.trans z), if_pos z]
        exact .cons hw a
      · rw [List.map_cons, List.map_cons, List.map_cons, List.map_cons, if_pos (h.1.trans z), if_pos z, c, h.1]
    · refine ⟨f1 ++ f, ?_, List.Sublist.append (List.Sublist.refl _) b, ?_⟩
      · rw [List.map_cons, List.map_cons, List.map_cons, List.map_cons, if_neg (by rw [h.1]; exact z), if_neg z]
        exact .cons r1 a
      · rw [List.map_cons, List.map_cons, List.map_cons, List.map_cons, if_neg (by rw [h.1]; exact z), if_neg z, c, h.1]
theorem put_rp {k : κ} {w : V} {d : D} (hw : Rp K cl H w d []) {kvs : List (κ × V)} {kds : List (κ × D)} {fp : List Addr} (h : kvs.map (·.1) = kds.map (·.1)) (r : RpL K cl H (kvs.map (·.2)) (kds.map (·.2)) fp) :
    ∃ f, RpL K cl H ((putK kvs k w).map (·.2)) ((dPut kds k d).map (·.2)) f ∧ f.Sublist fp ∧ (putK kvs k w).map (·.1) = (dPut kds k d).map (·.1) := by
  unfold putK dPut
  rw [any_keys h]
  by_cases z : (kds.any fun kv => decide (kv.1 = k)) = true
  · rw [if_pos z, if_pos z]; exact repl_rp hw h r
  · rw [if_neg z, if_neg z]
    refine ⟨fp ++ ([] ++ []), ?_, by simp, by rw [List.map_append, List.map_append, h]; rfl⟩
    rw [List.map_append, List.map_append]
    exact r.append (.cons hw .nil)
end
/-- a key -/
def D.key : D → Option Key
  | .int i => some (.inl i)
  | .str s => some (.inr s)
  | _ => none
theorem key_V {K : PySem.W.Frag} {cl : CE} {H : Hp} {v : V} {d : D} {fp : List Addr} {q : Key} (r : Rp K cl H v d fp) (e : d.key = some q) : v = kV q := by
  cases r <;> cases e <;> rfl
def keyD : Key → D
  | .inl i => .int i
  | .inr s => .str s
theorem keys_rp {K : PySem.W.Frag} {cl : CE} {H : Hp} : ∀ qs : List Key, RpL K cl H (qs.map kV) (qs.map keyD) []
  | [] => .nil
  | .inl i :: qs => .cons (.int i) (keys_rp qs)
  | .inr s :: qs => .cons (.str s) (keys_rp qs)
section
variable {X : Cx} {W : WX} {Z : SC} {Γx Γ Γ' : Ctx} {n r : Nat} {m m1 m2 m3 : List Nat} {σ : St} {H : Hp} {lab : Labs} {σD : List D} {pos p px apos cpos ipos tpos : Pos} {R : List Lab} {k k1 : Kd} {ks : List AK} {gs : List D → ER (List D)} {tg e ie a b : Expr} {x : Str} {g gi ga gb gv gk : List D → ER D}
def eDNew : List D → ER D := fun σ => .ok (.dK []) σ
theorem ej_dnewK : EJ X W Γx Γ n [] (.Dict [] [] pos) eDNew .own := by
  refine pe_imp pe_dnewK fun σ H Q h => ?_
  obtain ⟨σD, lab, g0, s, po⟩ := h
  intro q hq
  have P : Pres [] n H lab (upd H q (.dK [])) (setL lab q (.tmp n)) := .alloc hq rfl
  refine po (.ref q) _ _ (s.pres g0 P) P ⟨[q], .dK upd_same rfl .nil, by simp, fun b hb => ?_⟩
  rw [List.mem_singleton.mp hb]
  exact if_pos rfl
def dInD (x y : D) : Option D := match y with
  | .dK kds => x.key.map fun q => .bl (dFind kds q).isSome
  | _ => none
def dNotInD (x y : D) : Option D := match y with
  | .dK kds => x.key.map fun q => .bl (!(dFind kds q).isSome)
  | _ => none
theorem din_imp {f : Bool → Bool} {ff : D → D → Option D} (hff : ∀ x y z, ff x y = some z → ∃ kds q, y = .dK kds ∧ x.key = some q ∧ z = .bl (f (dFind kds q).isSome)) (ok : okK m2 (n + 1) k = true) {Q : VK} (h : rdE X W Γx Γ n (m1 ++ m2) .own (eBin ff ga gb) σ H Q) :
    rdE X W Γx Γ n m1 k ga σ H fun y H1 => rdE X W Γx Γ (n + 1) m2 k1 gb σ H1 fun x H2 => ∃ a o, x = .ref a ∧ DGet H2 a y o ∧ Q (.bl (f o.isSome)) H2 := by
  obtain ⟨σD, lab, g0, s, po⟩ := h
  refine ⟨σD, lab, g0, s, po.seq' fun x σD1 v H1 lab1 s1 p1 r1 po1 => ?_⟩
  refine ⟨σD1, lab1, gok.up g0, s1, po1.seq (SubK.up _ _) (Nat.le_succ _) (SubK.nil _ _) (Nat.le_refl _) fun y σD2 w H2 lab2 s2 p2 r2 po2 => ?_⟩
  have r1 := VR.pres p2 r1 ok (by simp [keepL])
  obtain ⟨z, e, q⟩ := po2.done
  obtain ⟨kds, qk, rfl, ek, rfl⟩ := hff _ _ _ e
  obtain ⟨fp, rp⟩ := r2.rp rfl
  obtain ⟨fx, rx⟩ := r1.rp (by cases x <;> first | rfl | cases ek)
  have ev := key_V rx ek
  subst ev
  cases rp with
  | dK h1 h2 h3 =>
    rename_i a kvs fp'
    refine ⟨a, valV kvs qk, rfl, .inl ⟨kvs, qk, .inl h1, rfl, rfl⟩, ?_⟩
    have : (valV kvs qk).isSome = (dFind kds qk).isSome := by
      rcases find_rp h2 h3 qk with ⟨a, b⟩ | ⟨v, d, f, a, b, _⟩
      · rw [a, b]; rfl
      · rw [a, b]; rfl
    rw [this]
    exact q _ H2 lab2 s2 (.refl _ _ _ _) (SV.bl _).vr
theorem dInD_ok : ∀ x y z, dInD x y = some z → ∃ kds q, y = .dK kds ∧ x.key = some q ∧ z = .bl (id (dFind kds q).isSome) := fun x y z e => by
  unfold dInD at e
  split at e
  · rw [Option.map_eq_some_iff] at e
    obtain ⟨q, e1, e2⟩ := e
    exact ⟨_, q, rfl, e1, e2.symm⟩
  · cases e
theorem dNotInD_ok : ∀ x y z, dNotInD x y = some z → ∃ kds q, y = .dK kds ∧ x.key = some q ∧ z = .bl (not (dFind kds q).isSome) := fun x y z e => by
  unfold dNotInD at e
  split at e
  · rw [Option.map_eq_some_iff] at e
    obtain ⟨q, e1, e2⟩ := e
    exact ⟨_, q, rfl, e1, e2.symm⟩
  · cases e
def dPutD (c q v : D) : Option D := match c with
  | .dK kds => if v.flat = true ∧ kds.length < sizeLine then q.key.map fun z => .dK (dPut kds z v) else none
  | _ => none
def fKeys (d : D) : Option D := match d with
  | .dK kds => some (.lst (kds.map fun kv => keyD kv.1))
  | _ => none
theorem ej_listKeys (hc : X.calm = true) (hm : X.mg "list" = none) (he : EJ X W Γx Γ n m e g k) (hg : Gl X "list" := by rfl) (hbase : attributeBase e "keys" X.env (eval e X.env) = eval e X.env := by rfl) (hline : (apos.endLine == cpos.line) = true := by rfl)
    (hs : starEach [.Call (.Attribute e "keys" apos) [] [] cpos] X.env = (false, eval (.Call (.Attribute e "keys" apos) [] [] cpos) X.env) :: starEach [] X.env := by rfl) (hk : (match k with | .exc _ => false | _ => true) = true := by rfl) :
    EJ X W Γx Γ n m (.Call (.Name "list" p) [.Call (.Attribute e "keys" apos) [] [] cpos] [] pos) (eUn fKeys g) .own := by
  refine pe_imp (pe_listKeys hc hg hm he hbase hline hs) fun σ H Q h => ?_
  obtain ⟨σD, lab, g0, s, po⟩ := h
  refine ⟨σD, lab, g0, s, po.last fun d σD1 v H1 lab1 s1 p1 r1 po1 => ?_⟩
  obtain ⟨z, ez, q⟩ := po1.done
  unfold fKeys at ez
  split at ez
  · cases ez
    obtain ⟨fp, rp⟩ := VR.rp r1 rfl
    cases rp with
    | dK h1 h2 h3 =>
      rename_i kds a kvs f
      refine ⟨_, _, rfl, h1, fun q' hq => ?_⟩
      have e1 : kvs.map (fun kv => kV kv.1) = (kds.map (·.1)).map kV := by rw [← h2, List.map_map]; rfl
      have e2 : kds.map (fun kv => keyD kv.1) = (kds.map (·.1)).map keyD := by rw [List.map_map]; rfl
      rw [e1]
      rw [e2] at q
      have P : Pres [] n H1 lab1 (upd H1 q' (.lst ((kds.map (·.1)).map kV))) (setL lab1 q' (.tmp n)) := .alloc hq rfl
      refine q (.ref q') _ _ (s1.pres g0 P) P ⟨[q'], .lst upd_same (keys_rp _), by simp, fun b hb => ?_⟩
      rw [List.mem_singleton.mp hb]
      exact if_pos rfl
  · cases ez
end
section
variable {X : Cx} {W : WX} {Z : SC} {Γx Γ Γ' : Ctx} {n r : Nat} {m m1 m2 m3 : List Nat} {σ : St} {H : Hp} {lab : Labs} {σD : List D} {pos p px apos cpos ipos tpos : Pos} {R : List Lab} {k k1 : Kd} {ks : List AK} {gs : List D → ER (List D)} {tg e ie a b c : Expr} {x : Str} {g gi ga gb gv gk gc : List D → ER D}
theorem hu1 {j : Nat} {A : Around} (h : Room j A) : A.units + 1 < cLine := by have := h.un; omega
theorem ej_inD (hu : X.A.units + 1 < cLine) (ha : EJ X W Γx Γ n m1 a ga k) (hb : EJ X W Γx Γ (n + 1) m2 b gb k1) (ok : okK m2 (n + 1) k = true := by decide) (hm : behindInMarks .In b = false := by rfl) : EJ X W Γx Γ n (m1 ++ m2) (.Compare a [.In] [b] pos) (eBin dInD ga gb) .own :=
  pe_imp (pe_cmp (pc_din hu ha hb) hm) fun σ H Q h => din_imp (f := id) dInD_ok ok h
/-- d[q] = v -/
def sSetD (r : Nat) (gv gi : List D → ER D) : List D → SO := sOf gv fun v => sOf gi fun i σ => match dPutD (σ.getD r .non) i v with
  | some c => .nxt (σ.set r c)
  | none => .stuck
theorem sj_dput (hu : X.A.units + 1 < cLine) (hx : PE X (.Name x px) (tVar r)) (he : EJ X W Z.Γx Γ n m1 e gv .own) (hi : EJ X W Z.Γx Γ (n + 1) m2 ie gi k) (hr : Γ[r]? = some (some .own) := by rfl) (hb : noBor Γ r = true := by decide)
    (hs : swapsWith e (some (.Subscript (.Name x px) ie tpos)) pos.line X.env = pure false := by rfl) :
    SJ X W Z Γ Γ n (m1 ++ (m2 ++ [r])) (.Assign [.Subscript (.Name x px) ie tpos] e pos) (sSetD r gv gi) := by
  refine ps_imp (ps_dput hu hx hi he hs) fun E σ H hh => ?_
  obtain ⟨σD, lab, fx, g0, s, po⟩ := hh
  refine sof_imp (fun _ _ _ q => q) g0 s po fun d σD1 v H1 lab1 s1 p1 r1 po1 => ?_
  obtain ⟨vr, hvr, _⟩ := s1.s.get hr
  refine ⟨vr, hvr, ?_⟩
  have po1' := po1.mono (m1 := m2 ++ [r]) (n1 := n) (SubK.refl _ _) (Nat.le_refl _)
  unfold sOf at po1'
  refine ⟨σD1, lab1, gok.up g0, s1.s, ?_⟩
  cases e2 : gi σD1 with
  | stuck => rw [e2] at po1'; exact po1'
  | exc cn py σD2 =>
    rw [e2] at po1'
    intro H2 lab2 C dd hc s2 p2 pay
    exact po1' σ H2 lab2 C dd hc ⟨s2, s1.f⟩ (p2.mono ((SubK.left _ _ _).trans (SubK.up _ _))) (pay.mono (Nat.le_succ _))
  | ok di σD2 =>
    rw [e2] at po1'
    intro iv H2 lab2 s2 p2 r2
    have po2 := PostS.later po1' p2 ((SubK.left _ _ _).trans (SubK.up _ _)) (SubK.right _ _ _)
    dsimp only at po2
    have r1 := VR.pres p2 r1 rfl (by simp [keepL])
    obtain ⟨vr', hvr', r3⟩ := s2.get hr
    rw [hvr] at hvr'
    cases hvr'
    cases es : dPutD (σD2.getD r .non) di d with
    | none => rw [es] at po2; exact po2.elim
    | some c =>
      rw [es] at po2
      unfold dPutD at es
      split at es
      · rename_i kds ec
        split at es
        · rename_i hf
          rw [Option.map_eq_some_iff] at es
          obtain ⟨q, hq, rfl⟩ := es
          rw [ec] at r3
          obtain ⟨fp, rp, nd, lf⟩ := r3
          cases rp with
          | @dK a kvs _ fp h1 h2 h3 =>
            rw [List.nodup_cons] at nd
            obtain ⟨fv, rv, _, _⟩ := r1
            have ef := rv.flat hf.1
            subst ef
            obtain ⟨fi, ri⟩ := r2.rp (by cases di <;> first | rfl | cases hq)
            have ev := key_V ri hq
            subst ev
            obtain ⟨f, rf, sf, kf⟩ := put_rp (k := q) rv h2 h3
            have na : a ∉ f := fun z => nd.1 (sf.subset z)
            refine ⟨a, _, rfl, .inl ⟨kvs, q, h1, rfl, ?_, rfl⟩, ?_⟩
            · have := h3.len
              rw [List.length_map, List.length_map] at this
              omega
            obtain ⟨s3, p3⟩ := s2.mut (fz := []) (f' := a :: f) (d' := .dK (dPut kds q d)) (o := .dK (putK kvs q v)) g0 hb hr hvr h1 True.intro (.dK upd_same kf (rf.disj na ⟨_, h1, True.intro⟩)) (by rw [List.append_nil]; exact List.nodup_cons.mpr ⟨na, nd.2.sublist sf⟩) (fun b hb' => by
              simp only [List.append_nil, List.mem_cons] at hb'
              rcases hb' with e | e | e
              · exact .inl (by rw [e]; exact lf a List.mem_cons_self)
              · exact .inl (by rw [e]; exact lf a List.mem_cons_self)
              · exact .inl (lf b (List.mem_cons_of_mem _ (sf.subset e))))
            exact po2 σ _ _ ⟨s3, s1.f⟩ p3
        · cases es
      · cases es
def eChain (f f' : D → D → Option D) (ga gb gc : List D → ER D) : List D → ER D := fun σ => (ga σ).bind fun x σ1 => (gb σ1).bind fun y σ2 => match f x y with
  | some (.bl true) => (gc σ2).bind fun z σ3 => ofO (f' y z) σ3
  | some (.bl false) => .ok (.bl false) σ2
  | _ => .stuck
def fLRng (ds : List D) : Option D := (gRng ds).bind fun xs => if xs.length ≤ 1000000 then some (.lst xs) else none
theorem ej_listRng1 (hc : X.calm = true) (hm : X.mg "list" = none) (hm2 : X.mg "range" = none) (ha : EJ X W Γx Γ n m a ga k) (hg : Gl X "list" := by rfl) (hg2 : Gl X "range" := by rfl) (na : starEach [a] X.env = (false, eval a X.env) :: starEach [] X.env := by rfl)
    (nl : starEach [.Call (.Name "range" p) [a] [] ipos] X.env = (false, eval (.Call (.Name "range" p) [a] [] ipos) X.env) :: starEach [] X.env := by rfl) :
    EJ X W Γx Γ n m (.Call (.Name "list" px) [.Call (.Name "range" p) [a] [] ipos] [] pos) (eUn (fun d => fLRng [d]) ga) .own := by
  refine pe_imp (pe_listRg hc hg hm (prg_1 hg2 hm2 ha na) nl) fun σ H Q h => ?_
  obtain ⟨σD, lab, g0, s, po⟩ := h
  refine ⟨σD, lab, g0, s, po.last fun d σD1 v H1 lab1 s1 p1 r1 po1 => ?_⟩
  obtain ⟨z, ez, q⟩ := po1.done
  unfold fLRng at ez
  cases d with
  | int j =>
    simp only [gRng] at ez
    split at ez
    · rename_i hb
      simp only [Option.bind_some] at ez
      split at ez
      · rename_i hl
        cases ez
        have hl : j.toNat ≤ 1000000 := by simpa [rngD] using hl
        have ev := r1.int
        subst ev
        refine ⟨j, rfl, ⟨by omega, by omega, hb.1, hb.2, by omega⟩, fun q' hq => ?_⟩
        have er : rgV 0 j = (List.range j.toNat).map fun (i : Nat) => V.int (0 + (i : Int)) := by unfold rgV; rw [Int.sub_zero]
        have rl : ∀ l : List Nat, RpL X.K (clX X) (upd H1 q' (.lst (rgV 0 j))) (l.map fun (i : Nat) => V.int (0 + (i : Int))) (l.map fun (i : Nat) => D.int (0 + (i : Int))) [] := fun l => by
          induction l with
          | nil => exact .nil
          | cons x l ih => exact .cons (.int _) ih
        have P : Pres [] n H1 lab1 (upd H1 q' (.lst (rgV 0 j))) (setL lab1 q' (.tmp n)) := .alloc hq rfl
        refine q (.ref q') _ _ (s1.pres g0 P) P ⟨[q'], .lst upd_same (by rw [er]; rw [er] at rl; exact rl _), by simp, fun b hb => ?_⟩
        rw [List.mem_singleton.mp hb]
        exact if_pos rfl
      · cases ez
    · cases ez
  | _ => cases ez
end
end Ow



namespace Ow
open PySem PySem.Spec PyProof.Rows L2
section
variable {X : Cx} {W : WX} {Z : SC} {Γx Γ Γ' : Ctx} {n r : Nat} {m m1 m2 m3 : List Nat} {σ : St} {H : Hp} {lab : Labs} {σD : List D} {pos p px apos cpos ipos tpos : Pos} {R : List Lab} {k k1 : Kd} {ks : List AK} {gs : List D → ER (List D)} {tg e ie a b c : Expr} {x : Str} {g gi ga gb gv gk gc : List D → ER D}
theorem tj_notinD (hu : X.A.units + 1 < cLine) (ha : EJ X W Γx Γ n m1 a ga k) (hb : EJ X W Γx Γ (n + 1) m2 b gb k1) (ok : okK m2 (n + 1) k = true := by decide) (hm : behindInMarks .NotIn b = false := by rfl) : TJ X W Γx Γ n (m1 ++ m2) (.Compare a [.NotIn] [b] pos) (tOf (eBin dNotInD ga gb)) :=
  pt_imp (pt_cmp (pc_dnotin hu ha hb) hm) fun σ H Q h => tof_imp (fun σ H Q q => din_imp (f := not) dNotInD_ok ok q) σ H Q h
end
end Ow


namespace Ow
open PySem PySem.Spec PyProof.Rows L2
/-- what is scalar, as a value -/
def D.scal : D → Bool
  | .non => true
  | .bl _ => true
  | .int _ => true
  | .str _ => true
  | _ => false
def D.sv : D → V
  | .bl b => .bl b
  | .int i => .int i
  | .str s => .str s
  | _ => .non
theorem D.scal_noE {d : D} (h : d.scal = true) : d.noE = true := by cases d <;> first | rfl | cases h
section
variable {K : PySem.W.Frag} {cl : CE} {H : Hp}
theorem Rp.sv {v : V} {d : D} {fp : List Addr} (r : Rp K cl H v d fp) (h : d.scal = true) : v = d.sv := by
  cases r <;> first | rfl | cases h
theorem RpL.sv : ∀ {vs : List V} {ds : List D} {fp : List Addr}, RpL K cl H vs ds fp → ds.all D.scal = true → vs = ds.map D.sv
  | _, _, _, .nil, _ => rfl
  | _, _, _, .cons h r, e => by
    rw [List.all_cons, Bool.and_eq_true] at e
    rw [List.map_cons, h.sv e.1, RpL.sv r e.2]
theorem D.flatV_sv {d : D} (h : d.scal = true) : flatV d.sv = true := by cases d <;> first | rfl | cases h
theorem RpL.cut : ∀ {vs : List V} {ds : List D} {f : List Addr} (k : Nat), RpL K cl H vs ds f → ∃ f1 f2, f = f1 ++ f2 ∧ RpL K cl H (vs.take k) (ds.take k) f1 ∧ RpL K cl H (vs.drop k) (ds.drop k) f2
  | _, _, _, 0, r => ⟨[], _, rfl, .nil, r⟩
  | _, _, _, k + 1, .nil => ⟨[], [], rfl, .nil, .nil⟩
  | _, _, _, k + 1, .cons h r => by
    obtain ⟨f1, f2, rfl, a, b⟩ := RpL.cut k r
    exact ⟨_, f2, (List.append_assoc _ _ _).symm, .cons h a, b⟩
end
def dIsN (x y : D) : Option D := match y with
  | .non => if x.noE = true then some (.bl (match x with | .non => true | _ => false)) else none
  | _ => none
def dInT (x y : D) : Option D := match y with
  | .tup ds => if x.scal = true ∧ ds.all D.scal = true then some (.bl (inV x.sv (ds.map D.sv))) else none
  | _ => none
def intsOf : List D → Option (List Int)
  | [] => some []
  | .int i :: ds => (intsOf ds).map (i :: ·)
  | _ :: _ => none
section
variable {X : Cx} {W : WX} {Z : SC} {Γx Γ Γ' : Ctx} {n r : Nat} {m m1 m2 m3 : List Nat} {σ : St} {H : Hp} {lab : Labs} {σD : List D} {pos p px apos cpos ipos tpos : Pos} {R : List Lab} {k k1 : Kd} {ks : List AK} {gs : List D → ER (List D)} {tg e ie a b c : Expr} {x : Str} {g gi ga gb gv gk gc : List D → ER D}
theorem dIsN_ok : ∀ x y z, dIsN x y = some z → ∃ c, z = .bl c ∧ (x.noE = true ∧ y.noE = true) ∧ ∀ H v w fp fq (Q : VK), Rp X.K (clX X) H v x fp → Rp X.K (clX X) H w y fq → Q (.bl c) H → w = .non ∧ Q (.bl (decide (v = .non))) H := fun x y z e => by
  unfold dIsN at e
  split at e
  · split at e
    · rename_i hx
      cases e
      refine ⟨_, rfl, ⟨hx, rfl⟩, fun H v w fp fq Q rx ry q => ?_⟩
      cases ry
      refine ⟨rfl, ?_⟩
      cases rx <;> exact q
    · cases e
  · cases e
theorem dInT_ok : ∀ x y z, dInT x y = some z → ∃ c, z = .bl c ∧ (x.noE = true ∧ y.noE = true) ∧ ∀ H v w fp fq (Q : VK), Rp X.K (clX X) H v x fp → Rp X.K (clX X) H w y fq → Q (.bl c) H → rIn X.K false v w H Q := fun x y z e => by
  unfold dInT at e
  split at e
  · split at e
    · rename_i ds h
      cases e
      refine ⟨_, rfl, ⟨D.scal_noE h.1, rfl⟩, fun H v w fp fq Q rx ry q => ?_⟩
      cases ry with
      | tup hs r =>
        refine ⟨_, _, rfl, .inr hs, ?_, ?_, ?_⟩
        · rw [rx.sv h.1]; exact D.flatV_sv h.1
        · rw [r.sv h.2, List.all_map]
          exact List.all_eq_true.mpr fun d hd => D.flatV_sv (List.all_eq_true.mp h.2 d hd)
        · rw [rx.sv h.1, r.sv h.2]; exact q
    · cases e
  · cases e
section
variable {op : CmpOp} {rr : R2} {f : D → D → Option D}
theorem tj_cmpG (ho : OpR X (compareOp op) rr) (hf : ∀ x y z, f x y = some z → ∃ c, z = .bl c ∧ (x.noE = true ∧ y.noE = true) ∧ ∀ H v w fp fq (Q : VK), Rp X.K (clX X) H v x fp → Rp X.K (clX X) H w y fq → Q (.bl c) H → rr v w H Q)
    (ha : EJ X W Γx Γ n m1 a ga k) (hb : EJ X W Γx Γ (n + 1) m2 b gb k1) (ok : okK m2 (n + 1) k = true := by decide) (hm : behindInMarks op b = false := by rfl) : TJ X W Γx Γ n (m1 ++ m2) (.Compare a [op] [b] pos) (tOf (eBin f ga gb)) :=
  pt_imp (pt_cmpR ho ha hb hm) fun σ H Q h => tof_imp (fun σ H Q q => eq_imp hf (fun _ _ _ q => q) (fun _ _ _ q => q) ok σ H Q q) σ H Q h
end
end
end Ow


namespace Ow
open PySem PySem.Spec PyProof.Rows L2
section
variable {X : Cx} {W : WX} {Z : SC} {Γ : Ctx} {n : Nat} {m : List Nat} {pos : Pos}
end
end Ow


namespace Ow
open PySem PySem.Spec PyProof.Rows L2
/-- the slots own what was put in them -/
def putOwn : Ctx → List Nat → Ctx
  | Γ, [] => Γ
  | Γ, i :: is => putOwn (putC Γ i .own) is
def setsV : St → List Nat → List V → St
  | σ, i :: is, v :: vs => setsV (σ.set i (some v)) is vs
  | σ, _, _ => σ
def sUnpL (is : List Nat) (g : List D → ER D) : List D → SO := sOf g fun d σ1 => match d with
  | .lst ds => (match setMany is ds σ1 with
    | some σ2 => .nxt σ2
    | none => .stuck)
  | _ => .stuck
section
variable {X : Cx} {W : WX} {Z : SC} {Γ : Ctx} {n : Nat} {m : List Nat} {pos : Pos} {H : Hp}
theorem tgs_sets : ∀ (is : List Nat) (vs : List V) (σ : St) (H : Hp) (Q : St → Hp → Prop), is.length = vs.length → Q (setsV σ is vs) H → tgs is vs σ H Q
  | [], [], σ, H, Q, _, q => ⟨rfl, q⟩
  | i :: is, v :: vs, σ, H, Q, h, q => ⟨v, vs, rfl, tgs_sets is vs _ H Q (by simpa using h) q⟩
  | [], _ :: _, _, _, _, h, _ => by simp at h
  | _ :: _, [], _, _, _, h, _ => by simp at h
/-- each item has addresses of its own label -/
inductive Each (K : PySem.W.Frag) (cl : CE) (H : Hp) (lab : Labs) : Nat → List V → List D → List Addr → Prop
  | nil {n : Nat} : Each K cl H lab n [] [] []
  | cons {n : Nat} {v : V} {d : D} {vs : List V} {ds : List D} {f1 f2 : List Addr} (h : Rp K cl H v d f1) (nd : f1.Nodup) (l : ∀ a ∈ f1, lab a = .tmp n) (r : Each K cl H lab (n + 1) vs ds f2) : Each K cl H lab n (v :: vs) (d :: ds) (f1 ++ f2)
theorem Each.put {K : PySem.W.Frag} {cl : CE} {lab : Labs} {i k : Nat} : ∀ {n : Nat} {vs : List V} {ds : List D} {f : List Addr}, k < n → Each K cl H lab n vs ds f → Each K cl H (labPut i k lab) n vs ds f
  | _, _, _, _, _, .nil => .nil
  | n, _, _, _, hk, .cons h nd l r => by
    refine .cons h nd (fun a ha => ?_) (Each.put (by omega) r)
    have e := l a ha
    unfold labPut
    rw [e, if_neg (by intro z; cases z), if_neg (by intro z; injection z; omega)]
theorem Each.cong {K : PySem.W.Frag} {cl : CE} {lab lab' : Labs} : ∀ {n : Nat} {vs : List V} {ds : List D} {f : List Addr}, (∀ a ∈ f, lab' a = lab a) → Each K cl H lab n vs ds f → Each K cl H lab' n vs ds f
  | _, _, _, _, _, .nil => .nil
  | n, _, _, _, hk, .cons h nd l r => .cons h nd (fun a ha => (hk a (List.mem_append_left _ ha)).trans (l a ha)) (Each.cong (fun a ha => hk a (List.mem_append_right _ ha)) r)
theorem putMany : ∀ (is : List Nat) (ds : List D) (vs : List V) (Γ : Ctx) (σ : St) (σD σD' : List D) (lab : Labs) (n : Nat), SR X Γ σ H lab σD → gok Γ n = true → (∀ i ∈ is, i < X.N.length) → (∃ f, Each X.K (clX X) H lab n vs ds f) → setMany is ds σD = some σD' →
    ∃ lab', SR X (putOwn Γ is) (setsV σ is vs) H lab' σD' ∧ ∀ m, (∀ i ∈ is, i ∈ m) → Pres m n H lab H lab'
  | [], [], _, Γ, σ, σD, σD', lab, n, s, g, hi, ⟨_, .nil⟩, e => by
    cases e
    exact ⟨lab, s, fun m _ => .refl _ _ _ _⟩
  | i :: is, d :: ds, _, Γ, σ, σD, σD', lab, n, s, g, hi, ⟨_, .cons h nd l r⟩, e => by
    have s1 := s.put g (hi i List.mem_cons_self) (k := .own) ⟨_, h, nd, l⟩ rfl
    have g1 := gok.up (gok_put (i := i) (k := .own) g rfl)
    obtain ⟨lab', s2, p2⟩ := putMany is ds _ _ _ _ _ _ (n + 1) s1 g1 (fun j hj => hi j (List.mem_cons_of_mem _ hj)) ⟨_, r.put (Nat.lt_succ_self n)⟩ e
    refine ⟨lab', s2, fun m hm => ?_⟩
    have P1 : Pres m n H lab H (labPut i n lab) := Pres.put.mono (.of (fun q hq => by simp at hq; rw [hq]; exact hm i List.mem_cons_self) (Nat.le_refl _))
    exact P1.trans (p2 m fun j hj => hm j (List.mem_cons_of_mem _ hj)) (SubK.refl _ _) (.of (fun _ h => h) (Nat.le_succ _))
  | [], _ :: _, _, _, _, _, _, _, _, _, _, _, _, e => by cases e
  | _ :: _, [], _, _, _, _, _, _, _, _, _, _, _, e => by cases e
/-- own items, each given a label of its own -/
theorem each_of {K : PySem.W.Frag} {cl : CE} : ∀ {vs : List V} {ds : List D} {fp : List Addr} (lab : Labs) (n : Nat), RpL K cl H vs ds fp → fp.Nodup → (∀ a ∈ fp, ∃ j, n ≤ j ∧ lab a = .tmp j) → ∃ lab' : Labs, Each K cl H lab' n vs ds fp ∧ (∀ a, a ∉ fp → lab' a = lab a) ∧ ∀ a ∈ fp, ∃ j, n ≤ j ∧ lab' a = .tmp j
  | _, _, _, lab, n, .nil, _, _ => ⟨lab, .nil, fun _ _ => rfl, fun a ha => by cases ha⟩
  | _, _, _, lab, n, .cons (f1 := f1) (f2 := f2) (v := v) (d := d) h r, nd, hl => by
    rw [List.nodup_append] at nd
    let lab0 : Labs := fun a => open Classical in if a ∈ f2 then .tmp (n + 1) else lab a
    obtain ⟨lab1, e1, o1, t1⟩ := each_of lab0 (n + 1) r nd.2.1 fun a ha => ⟨n + 1, Nat.le_refl _, if_pos ha⟩
    let lab2 : Labs := fun a => open Classical in if a ∈ f1 then .tmp n else lab1 a
    have out1 : ∀ a ∈ f2, lab2 a = lab1 a := fun a ha => if_neg fun h1 => nd.2.2 a h1 a ha rfl
    refine ⟨lab2, .cons h nd.1 (fun a ha => if_pos ha) (e1.cong out1), fun a ha => ?_, fun a ha => ?_⟩
    · have a1 : a ∉ f1 := fun h => ha (List.mem_append_left _ h)
      have a2 : a ∉ f2 := fun h => ha (List.mem_append_right _ h)
      show (if a ∈ f1 then _ else _) = _
      rw [if_neg a1, o1 a a2]
      show (if a ∈ f2 then _ else _) = _
      rw [if_neg a2]
    · by_cases h1 : a ∈ f1
      · exact ⟨n, Nat.le_refl _, if_pos h1⟩
      · have h2 : a ∈ f2 := (List.mem_append.mp ha).elim (fun q => absurd q h1) id
        obtain ⟨j, hj, e⟩ := t1 a h2
        exact ⟨j, by omega, (out1 a h2).trans e⟩
end
end Ow


namespace Ow
open PySem PySem.Spec PyProof.Rows L2
section
variable {X : Cx} {W : WX} {Γx Γ : Ctx} {n : Nat} {m : List Nat} {pos p : Pos} {k : Kd} {gs : List D → ER (List D)} {e : Expr}
end
end Ow


namespace Ow
open PySem PySem.Spec PyProof.Rows L2
section
variable (X : Cx) (W : WX) (Γx Γ Γ' : Ctx) (n : Nat) (m : List Nat)
def rdEM (k : Kd) (g : List D → ER D) : TE := fun σ H Q => ∃ σD lab, gok Γ n = true ∧ SR X Γ σ H lab σD ∧ Post X W Γx Γ' σ m n (relE X n k) H lab Q (g σD)
abbrev EM (e : Expr) (g : List D → ER D) (k : Kd) : Prop := PE X e (rdEM X W Γx Γ Γ' n m k g)
def rdAM (ks : List AK) (g : List D → ER (List D)) : TA := fun σ H Q => ∃ σD lab, gok Γ n = true ∧ SR X Γ σ H lab σD ∧ Post X W Γx Γ' σ m n (relA X σ n ks) H lab Q (g σD)
abbrev AM (es : List Expr) (g : List D → ER (List D)) (ks : List AK) : Prop := PA X es (rdAM X W Γx Γ Γ' n m ks g)
end
section
variable {α β γ δ : Type}
variable {X : Cx} {W : WX} {Γx Γ Γ1 Γ2 : Ctx} {σ : St} {m m1 m2 : List Nat} {n n1 n2 : Nat} {H H1 : Hp} {lab lab1 : Labs}
theorem Post.seqC {rel : Rel β α} {rel1 : Rel δ γ} {Q : β → Hp → Prop} {Q1 : δ → Hp → Prop} {r : ER γ} {f : γ → List D → ER α} (h : Post X W Γx Γ2 σ m n rel H lab Q (r.bind f)) (s1 : SubK m n m1 n1) (h1 : n ≤ n1) (s2 : SubK m n m2 n2) (h2 : n ≤ n2)
    (k : ∀ a σD1 b H1 lab1, SR X Γ1 σ H1 lab1 σD1 → Pres m1 n1 H lab H1 lab1 → rel1 σD1 H1 lab1 b a → Post X W Γx Γ2 σ m2 n2 rel H1 lab1 Q (f a σD1) → Q1 b H1) : Post X W Γx Γ1 σ m1 n1 rel1 H lab Q1 r := by
  cases r with
  | stuck => exact h.elim
  | ok a σD1 =>
    intro b H1 lab1 sr pr rl
    refine k a σD1 b H1 lab1 sr pr rl ?_
    have h : Post X W Γx Γ2 σ m n rel H lab Q (f a σD1) := h
    cases e : f a σD1 with
    | stuck => rw [e] at h; exact h.elim
    | ok a2 σD2 =>
      rw [e] at h
      intro b2 H2 lab2 sr2 pr2 rl2
      exact h b2 H2 lab2 sr2 (pr.trans pr2 s1 s2) rl2
    | exc c p σD2 =>
      rw [e] at h
      intro H2 lab2 C dd hc sr2 pr2 py
      exact h H2 lab2 C dd hc sr2 (pr.trans pr2 s1 s2) (py.mono h2)
  | exc c p σD1 =>
    intro H1 lab1 C dd hc sr pr py
    have h : Post X W Γx Γ2 σ m n rel H lab Q (.exc c p σD1) := h
    exact h H1 lab1 C dd hc sr (pr.mono s1) (py.mono h1)
end
section
variable {X : Cx} {W : WX} {Z : SC} {Γx Γ Γ' Γ1 Γ2 : Ctx} {n r i : Nat} {m m1 m2 m3 : List Nat} {H : Hp} {lab : Labs} {pos p px apos : Pos} {k k1 : Kd} {ks : List AK} {gs : List D → ER (List D)} {e e2 a b : Expr} {es : List Expr} {x : Str} {g ga gb : List D → ER D} {fx : Nat → V} {E : Ends}
theorem em_of (h : EJ X W Γx Γ n m e g k) : EM X W Γx Γ Γ n m e g k := h
/-- the labels when slot i is given away -/
def labMv (i n : Nat) (lab : Labs) : Labs := fun a => if lab a = .slt i then .tmp n else lab a
theorem Pres.mv : Pres [i] n H lab H (labMv i n lab) := .relab (fun a h => by
    unfold labMv
    rw [if_neg (by intro e; rw [e] at h; simp [keepL] at h)]) fun a h => by
    unfold labMv at h ⊢
    split at h
    · cases h
    · rename_i h1
      rw [if_neg h1]
theorem em_var (hΓ : Γ[i]? = some (some .own)) (h : PE X (.Name x pos) (tVar i)) (l : leC Γ Γ' = true := by decide) (hg : gokm Γ' [i] n = true := by decide) : EM X W Γx Γ Γ' n [i] (.Name x pos) (eVar i) .own := by
  refine pe_imp h fun σ H Q hq => ?_
  obtain ⟨σD, lab, g, sr, po⟩ := hq
  obtain ⟨v, hv, fp, rp, nd, lf⟩ := sr.get hΓ
  refine ⟨v, hv, po v H (labMv i n lab) ((sr.weak l).presm hg .mv) .mv ⟨fp, rp, nd, fun a ha => ?_⟩⟩
  unfold labMv
  rw [if_pos (lf a ha)]
theorem am_nil : AM X W Γx Γ Γ n [] [] aNil [] := aj_nil
theorem am_cons (ha : EM X W Γx Γ Γ1 n m1 e g k) (hr : AM X W Γx Γ1 Γ2 (n + 1) m2 es gs ks) (g1 : gok Γ1 n = true := by decide) (ok : okK m2 (n + 1) k = true := by decide) (hs : starEach (e :: es) X.env = (false, eval e X.env) :: starEach es X.env := by rfl) : AM X W Γx Γ Γ2 n (m1 ++ m2) (e :: es) (aCons g gs) (.val k :: ks) := by
  refine pa_imp (pa_cons ha hr hs) fun σ H Q h => ?_
  obtain ⟨σD, lab, gg, sr, po⟩ := h
  refine ⟨σD, lab, gg, sr, po.seqC (SubK.left _ _ _) (Nat.le_refl _) (SubK.right _ _ _) (Nat.le_refl _) fun x σD1 v H1 lab1 sr1 pr1 rl1 po1 => ?_⟩
  refine ⟨σD1, lab1, gok.up g1, sr1, po1.seqC (SubK.up _ _) (Nat.le_succ _) (SubK.nil _ _) (Nat.le_refl _) fun ds σD2 vs H2 lab2 sr2 pr2 rl2 po2 => ?_⟩
  exact po2 _ H2 lab2 sr2 (.refl _ _ _ _) ⟨v, vs, x, ds, rfl, rfl, VR.pres pr2 rl1 ok (by simp [keepL]), rl2⟩
theorem em_tup {x1} (h : AM X W Γx Γ Γ' n m es gs ks) (ho : ks.all ownA = true := by rfl) (hl : ks.length ≤ 1000 := by decide) (g1 : gok Γ' n = true := by decide) : EM X W Γx Γ Γ' n m (.Tuple es x1 pos) (eTup gs) .own := by
  refine pe_imp (pe_tup h) fun σ H Q hh => ?_
  obtain ⟨σD, lab, gg, sr, po⟩ := hh
  refine ⟨σD, lab, gg, sr, po.seqC (SubK.refl _ _) (Nat.le_refl _) (SubK.nil _ _) (Nat.le_refl _) fun ds σD1 vs H1 lab1 sr1 pr1 rl1 po1 => ?_⟩
  obtain ⟨fp, r, nd, l⟩ := rl1.own ho
  refine ⟨by rw [rl1.len.1]; exact Nat.le_of_lt (small1000 hl), fun p hp => ?_⟩
  have P : Pres [] n H1 lab1 (upd H1 p (.tup vs)) (setL (colT n lab1) p (.tmp n)) := Pres.colT.trans (.alloc hp rfl) (SubK.refl _ _) (SubK.refl _ _)
  have ne : ∀ a ∈ fp, a ≠ p := fun a ha e => by
    obtain ⟨o, q, _⟩ := r.alloc a ha
    rw [e, hp] at q; cases q
  refine po1 _ _ _ (sr1.pres g1 P) P ⟨fp, .tup (.of upd_same) (r.ext (TK.new hp) fun a ha => upd_ne (ne a ha)), nd, fun a ha => ?_⟩
  obtain ⟨j, hj, e⟩ := l a ha
  show (if a = p then _ else _) = _
  rw [if_neg (ne a ha)]
  exact colT_tmp e hj
theorem sofm_imp {te : TE} {g : List D → ER D} {k : Kd} {kk : D → List D → SO} {σ : St} {Q : VK} {σD : List D} (h : ∀ σ H Q, rdEM X W Z.Γx Γ Γ1 n m1 k g σ H Q → te σ H Q) (g0 : gok Γ n = true) (s : SRx X Z.io fx Γ σ H lab σD) (po : PostS X W Z fx Γ' (m1 ++ m2) n H lab E (sOf g kk σD))
    (cont : ∀ d σD1 v H1 lab1, SRx X Z.io fx Γ1 σ H1 lab1 σD1 → Pres m1 n H lab H1 lab1 → VR X.K (clX X) H1 lab1 k (.tmp n) v d → PostS X W Z fx Γ' m2 n H1 lab1 E (kk d σD1) → Q v H1) : te σ H Q := by
  refine h _ _ _ ⟨σD, lab, g0, s.s, ?_⟩
  unfold sOf at po
  cases e : g σD with
  | stuck => rw [e] at po; exact po
  | ok d σD1 =>
    rw [e] at po
    intro v H1 lab1 s1 p1 r1
    exact cont d σD1 v H1 lab1 ⟨s1, s.f⟩ p1 r1 (PostS.later po p1 (SubK.left _ _ _) (SubK.right _ _ _))
  | exc c py σD1 =>
    rw [e] at po
    intro H1 lab1 C dd hc s1 p1 pay
    exact po σ H1 lab1 C dd hc ⟨s1, s.f⟩ (p1.mono (SubK.left _ _ _)) pay
theorem sm_ret (h : EM X W Z.Γx Γ Γ1 n m e g .own) (ho : Z.own = true := by rfl) (l : leC Γ1 Z.Γr = true := by decide) : SJ X W Z Γ Γ' n m (.Return (some e) pos) (sRet g) := by
  refine ps_imp (ps_ret h) fun E σ H hh => ?_
  obtain ⟨σD, lab, fx, g0, s, po⟩ := hh
  refine sofm_imp (m2 := []) (fun _ _ _ q => q) g0 s (by rw [List.append_nil]; exact po) fun d σD1 v H1 lab1 s1 p1 r1 po1 => ?_
  exact po1 v σ H1 lab1 n ⟨s1.s.weak l, s1.f⟩ (Pres.refl [] 0 _ _).w (by rw [ho]; exact r1)
end
end Ow


namespace Ow
open PySem PySem.Spec PyProof.Rows L2
/-- what a row's part is -/
inductive Fk where
  | int | str | tup (d : Nat)
  deriving DecidableEq
/-- a text as numbers that are ordered alike; none is the beginning of another -/
def cpK (l : List Nat) : List Int := l.map (fun (c : Nat) => (c : Int) + 1) ++ [0]
def strK (x : Str) : List Int := cpK x.cps.toList
inductive FldsC (h : Heap) : List Fk → List Value → List Int → Prop
  | nil : FldsC h [] [] []
  | int {P : List Fk} {us : List Value} {ks : List Int} (i : Int) (t : Tok) (r : FldsC h P us ks) : FldsC h (.int :: P) (.int i t :: us) (i :: ks)
  | str {P : List Fk} {us : List Value} {ks : List Int} (x : Str) (t : Tok) (r : FldsC h P us ks) : FldsC h (.str :: P) (.str x t :: us) (strK x ++ ks)
  | tup {P : List Fk} {us : List Value} {ks : List Int} {d : Nat} {a : Addr} {its : Array Value} {ns : List Int} (h1 : IsTup h a its) (h2 : IntsAre its.toList ns) (hd : ns.length = d) (r : FldsC h P us ks) : FldsC h (.tup d :: P) (.ref a :: us) (ns ++ ks)
def RowC (h : Heap) (P : List Fk) (u : Value) (ks : List Int) : Prop := ∃ t its, u = .ref t ∧ IsTup h t its ∧ FldsC h P its.toList ks
def KeepH (h h' : Heap) : Prop := ∀ (b : Addr) (o : Obj), h.get? b = some o → h'.get? b = some o
theorem IsTup.keep {h h' : Heap} (k : KeepH h h') {a : Addr} {its : Array Value} (i : IsTup h a its) : IsTup h' a its := by
  obtain ⟨o, e, r⟩ := i
  exact ⟨o, k _ _ e, r⟩
theorem FldsC.keep {h h' : Heap} (k : KeepH h h') : ∀ {P : List Fk} {us : List Value} {ks : List Int}, FldsC h P us ks → FldsC h' P us ks
  | _, _, _, .nil => .nil
  | _, _, _, .int i t r => .int i t (r.keep k)
  | _, _, _, .str x t r => .str x t (r.keep k)
  | _, _, _, .tup h1 h2 hd r => .tup (IsTup.keep k h1) h2 hd (r.keep k)
theorem RowC.keep {h h' : Heap} (k : KeepH h h') {P : List Fk} {u : Value} {ks : List Int} (r : RowC h P u ks) : RowC h' P u ks := by
  obtain ⟨t, its, e, i, f⟩ := r
  exact ⟨t, its, e, IsTup.keep k i, f.keep k⟩
theorem FldsC.len {h : Heap} : ∀ {P : List Fk} {us : List Value} {ks : List Int}, FldsC h P us ks → us.length = P.length
  | _, _, _, .nil => rfl
  | _, _, _, .int i t r => by rw [List.length_cons, List.length_cons, r.len]
  | _, _, _, .str x t r => by rw [List.length_cons, List.length_cons, r.len]
  | _, _, _, .tup h1 h2 hd r => by rw [List.length_cons, List.length_cons, r.len]
section
variable {prog : Program} {w : World} {A : Around} {s : Shared}
end
theorem ints_fun : ∀ {vs : List Value} {ns ms : List Int}, IntsAre vs ns → IntsAre vs ms → ns = ms
  | _, _, _, .nil, .nil => rfl
  | _, _, _, .cons n t h, .cons _ _ g => by rw [ints_fun h g]
theorem FldsC.fn {h : Heap} : ∀ {P : List Fk} {us : List Value} {ks ls : List Int}, FldsC h P us ks → FldsC h P us ls → ks = ls
  | _, _, _, _, .nil, .nil => rfl
  | _, _, _, _, .int i t r, .int _ _ r' => by rw [r.fn r']
  | _, _, _, _, .str x t r, .str _ _ r' => by rw [r.fn r']
  | _, _, _, _, .tup h1 h2 hd r, .tup g1 g2 gd r' => by
    obtain ⟨o, a, _, n, b⟩ := h1
    obtain ⟨o', a', _, n', b'⟩ := g1
    rw [a] at a'
    cases a'
    rw [b] at b'
    injection b' with e
    subst e
    rw [ints_fun h2 g2, r.fn r']
theorem RowC.fn {h : Heap} {P : List Fk} {u : Value} {ks ls : List Int} (r : RowC h P u ks) (q : RowC h P u ls) : ks = ls := by
  obtain ⟨t, its, rfl, ⟨o, a, _, n, b⟩, f⟩ := r
  obtain ⟨t', its', e, ⟨o', a', _, n', b'⟩, f'⟩ := q
  cases e
  rw [a] at a'
  cases a'
  rw [b] at b'
  injection b' with e
  subst e
  exact f.fn f'
section
variable {X : Cx} {W : WX} {Γx Γ : Ctx} {n : Nat} {m : List Nat} {pos p : Pos} {k : Kd} {gs : List D → ER (List D)} {e : Expr}
end
end Ow


namespace Ow
open PySem PySem.Spec PyProof.Rows L2
section
variable {X : Cx} {pins : List (Addr × Obj)} {σ : St} {H : Hp} {s : Shared} {a : Addr} {o : Obj} {us : List (List Int × Addr × Value)}
end
section
variable {X : Cx} {pos apos cpos : Pos}
end
section
variable {K : PySem.W.Frag} {cl : CE} {H : Hp}
end
section
variable {X : Cx} {W : WX} {Z : SC} {Γx Γ Γ' : Ctx} {n r : Nat} {m m1 m2 m3 : List Nat} {pos p px apos cpos ipos tpos : Pos} {k k1 k2 : Kd} {tg e f ie : Expr} {x : Str} {g gi ge gf gv : List D → ER D}
def eDNewT : List D → ER D := fun σ => .ok (.dT []) σ
/-- what a dict tells of a key, flat -/
def dGetT : D → D → D → Option D
  | .dT kds, .tup ds, z => (intsOf ds).bind fun ks => if ((dFind kds ks).getD z).flat = true then some ((dFind kds ks).getD z) else none
  | _, _, _ => none
def isDT : D → Bool
  | .dT _ => true
  | _ => false
def eGetT (r : Nat) (ge gf : List D → ER D) : List D → ER D := fun σ => if isDT (σ.getD r .non) = true then (ge σ).bind fun y σ1 => (gf σ1).bind fun z σ2 => ofO (dGetT (σ2.getD r .non) y z) σ2 else .stuck
def dIxT : D → D → Option D
  | .dT kds, .tup ds => (intsOf ds).bind fun ks => (dFind kds ks).bind fun d => if d.flat = true then some d else none
  | _, _ => none
def eIxT (r : Nat) (gi : List D → ER D) : List D → ER D := fun σ => if isDT (σ.getD r .non) = true then (gi σ).bind fun y σ1 => ofO (dIxT (σ1.getD r .non) y) σ1 else .stuck
/-- a key put in -/
def dPutT : D → D → D → Option D
  | .dT kds, .tup ds, d => if d.flat = true ∧ kds.length < sizeLine then (intsOf ds).map fun ks => .dT (dPut kds ks d) else none
  | _, _, _ => none
def sSetT (r : Nat) (gv gi : List D → ER D) : List D → SO := sOf gv fun d σ => match gi σ with
  | .stuck => .stuck
  | .ok i σ1 => (match dPutT (σ1.getD r .non) i d with
    | some c => .nxt (σ1.set r c)
    | none => .stuck)
  | .exc c p σ1 => .exc c p σ1
end
def gKeysT (r : Nat) : List D → ER (List D) := fun σ => match σ.getD r .non with
  | .dT kds => .ok (kds.map fun kv => .tup (kv.1.map D.int)) σ
  | _ => .stuck
section
variable {X : Cx} {W : WX} {Γx Γ : Ctx} {n r : Nat} {px : Pos} {k : Kd} {tg : Expr} {x : Str}
end
end Ow


namespace Ow
open PySem PySem.Spec PyProof.Rows L2
section
variable {X : Cx} {tg : Expr} {z : Addr} {fp wr ch : List Addr} {q i : Nat} {St : Nat → Heap → Prop} {Pt : Nat → Array Value → Prop} {pins : List (Addr × Obj)} {s : Shared} {σ : L2.St} {H : Hp} {E : Value → Shared → Prop}
end
theorem far {a n k : Nat} (h : a < n) : a ≠ n + k := by omega
/-- how such a zip stands after so many turns -/
structure ZmAt (z TI TO i1 i2 a b : Addr) (i : Nat) (h : Heap) : Prop where
  zp : IsZip h z TI TO .none
  ti : IsTupOf2 h TI (.ref i1) (.ref i2)
  to_ : ∃ x y, IsTupOf2 h TO x y
  w1 : h.IsTupleIter i1 a i
  w2 : h.IsListIter i2 b i
theorem ZmAt.objs {z TI TO i1 i2 a b : Addr} {i : Nat} {h : Heap} (st : ZmAt z TI TO i1 i2 a b i h) : ∀ c ∈ [z, TI, TO, i1, i2], ∃ o, h.get? c = some o ∧ ∀ v, o.data ≠ .cell v := by
  obtain ⟨x, y, hTO⟩ := st.to_
  obtain ⟨o1, e1, _, d1⟩ := st.w1
  obtain ⟨o2, e2, _, d2⟩ := st.w2
  intro c hc
  simp only [List.mem_cons, List.not_mem_nil, or_false] at hc
  rcases hc with rfl | rfl | rfl | rfl | rfl
  · exact ⟨_, st.zp, fun _ e => nomatch e⟩
  · exact ⟨_, st.ti, fun _ e => nomatch e⟩
  · exact ⟨_, hTO, fun _ e => nomatch e⟩
  · exact ⟨o1, e1, fun v e => by rw [d1] at e; cases e⟩
  · exact ⟨o2, e2, fun v e => by rw [d2] at e; cases e⟩
section
variable {X : Cx} {W : WX} {Γx Γ : Ctx} {n : Nat} {m : List Nat} {pos p : Pos} {e e2 : Expr} {gs : List D → ER (List D)} {ks : List AK} {R : List Lab} {H : Hp} {lab : Labs}
end
end Ow


namespace Ow
open PySem PySem.Spec PyProof.Rows L2
section
variable {X : Cx} {W : WX} {Γx Γ : Ctx} {n : Nat} {m1 m2 : List Nat} {pos : Pos} {a b : Expr} {ga gb : List D → ER D} {k k1 : Kd}
end
end Ow


namespace Ow
open PySem PySem.Spec PyProof.Rows L2
section
variable {X : Cx} {W : WX} {Γx Γ : Ctx} {n : Nat} {m1 m2 : List Nat} {pos : Pos} {a b : Expr} {ga gb : List D → ER D} {k k1 : Kd} {H : Hp}
end
end Ow


namespace Ow
open PySem PySem.Spec PyProof.Rows L2
end Ow


namespace Ow
open PySem PySem.Spec PyProof.Rows L2
/-- how an enumerate over a tuple stands after so many turns -/
structure EnAt (e it a : Addr) (i : Nat) (h : Heap) : Prop where
  en : ∃ old, IsEnum h e it (0 + (i : Int)) old
  w1 : h.IsTupleIter it a i
theorem EnAt.objs {e it a : Addr} {i : Nat} {h : Heap} (st : EnAt e it a i h) : ∀ c ∈ [e, it], ∃ o, h.get? c = some o ∧ ∀ v, o.data ≠ .cell v := by
  obtain ⟨old, he⟩ := st.en
  obtain ⟨o1, e1, _, d1⟩ := st.w1
  intro c hc
  simp only [List.mem_cons, List.not_mem_nil, or_false] at hc
  rcases hc with rfl | rfl
  · exact ⟨_, he, fun _ q => nomatch q⟩
  · exact ⟨o1, e1, fun v q => by rw [d1] at q; cases q⟩
section
variable {X : Cx} {W : WX} {Γx Γ : Ctx} {n : Nat} {m : List Nat} {pos p : Pos} {e : Expr} {gs : List D → ER (List D)} {ks : List AK} {R : List Lab} {H : Hp} {lab : Labs}
end
end Ow


namespace Ow
open PySem PySem.Spec PyProof.Rows L2
section
variable {X : Cx} {W : WX} {Z : SC} {Γx Γ Γ' : Ctx} {n r : Nat} {m m1 m2 m3 : List Nat} {H : Hp} {lab : Labs} {pos p px apos p1 p2 p3 : Pos} {R : List Lab} {k k1 : Kd} {ks : List AK} {gs : List D → ER (List D)} {tg e e2 a b : Expr} {x : Str} {g ga gb : List D → ER D} {σ : St} {σD : List D}
end
end Ow


namespace Ow
open PySem PySem.Spec PyProof.Rows L2
section
variable {X : Cx} {W : WX} {Z : SC} {Γx Γ Γ' : Ctx} {n r : Nat} {m m1 m2 : List Nat} {σ : St} {H : Hp} {lab : Labs} {σD : List D} {pos : Pos}
theorem SR.drop {js : List Nat} (s : SR X Γ σ H lab σD) (hd : wipeC Γ js = Γ') : SR X Γ' σ H lab σD := hd ▸ ⟨s.l1, s.l2, fun i k e => s.at_ i k (wipeC_at e).1⟩
end
end Ow


namespace Ow
open PySem PySem.Spec PyProof.Rows L2
section
variable {P : Program} {w : World} {A : Around} {E : Value → Shared → Prop} {s : Shared}
end
section
variable {X : Cx} {W : WX} {Γx Γ : Ctx} {n : Nat} {m : List Nat} {pos p pos2 p2 : Pos} {k : Kd} {gs : List D → ER (List D)} {e : Expr}
end
section
variable {X : Cx} {W : WX} {Γx Γ : Ctx} {n r : Nat} {m : List Nat} {nx : Str} {px apos cpos : Pos} {H : Hp}
end
end Ow


namespace Ow
open PySem PySem.Spec PyProof.Rows L2
def dFld (c f : Str) : D → Option D
  | .ins c' fs => if c' = c then fs.lookup f else none
  | _ => none
def putD (f : Str) (v : D) : List (Str × D) → List (Str × D)
  | [] => [(f, v)]
  | (g, x) :: r => if g = f then (g, v) :: r else (g, x) :: putD f v r
section
variable {K : PySem.W.Frag} {cl : CE} {H H' : Hp} {lab : Labs}
/-- a field stands at the same place in both -/
theorem fld_at {f : Str} : ∀ {fs : List (Str × V)} {fds : List (Str × D)} {d : D}, fs.map (·.1) = fds.map (·.1) → fds.lookup f = some d → ∃ (i : Nat), (fds.map (·.2))[i]? = some d ∧ (∀ v, (fs.map (·.2))[i]? = some v → fs.lookup f = some v) ∧
    (∀ w : V, (putF f w fs).map (·.1) = fs.map (·.1) ∧ (putF f w fs).map (·.2) = (fs.map (·.2)).set i w) ∧ (∀ e : D, (putD f e fds).map (·.1) = fds.map (·.1) ∧ (putD f e fds).map (·.2) = (fds.map (·.2)).set i e)
  | _, [], _, _, h => by cases h
  | [], (g, x) :: r, _, e, _ => by cases e
  | (g', y) :: q, (g, x) :: r, d, e, h => by
    rw [List.map_cons, List.map_cons] at e
    injection e with e1 e2
    have e1 : g' = g := e1
    subst e1
    by_cases hg : g' = f
    · subst hg
      have : d = x := by simpa [List.lookup] using h.symm
      subst this
      refine ⟨0, rfl, fun v hv => ?_, fun w => ?_, fun w => ?_⟩
      · have : y = v := by simpa using hv
        subst this
        simp [List.lookup]
      · simp [putF]
      · simp [putD]
    · have hb : (f == g') = false := beq_eq_false_iff_ne.mpr fun z => hg z.symm
      have h2 : r.lookup f = some d := by simpa [List.lookup, hb] using h
      obtain ⟨i, a1, a2, a3, a4⟩ := fld_at e2 h2
      refine ⟨i + 1, by simpa using a1, fun v hv => ?_, fun w => ?_, fun w => ?_⟩
      · have := a2 v (by simpa using hv)
        simpa [List.lookup, hb] using this
      · obtain ⟨b1, b2⟩ := a3 w
        simp [putF, hg, b1, b2]
      · obtain ⟨b1, b2⟩ := a4 w
        simp [putD, hg, b1, b2]
theorem VR.fldB {R : List Lab} {t : Lab} {v : V} {c f : Str} {x d : D} (h : VR K cl H lab (.bor R) t v x) (e : dFld c f x = some d) : ∃ a C dx fs w, v = .ref a ∧ cl.cl c C ∧ H a = some (.ins C dx fs) ∧ fs.lookup f = some w ∧ VR K cl H lab (.bor R) t w d := by
  obtain ⟨fp, r, l⟩ := h
  unfold dFld at e
  split at e
  · rename_i c' fds
    split at e
    · rename_i hc
      subst hc
      cases r with
      | ins hcl hH hk rr =>
        rename_i a C dx fs fp'
        obtain ⟨i, a1, a2, _, _⟩ := fld_at hk e
        obtain ⟨w, fw, e1, rw', sb⟩ := rr.get a1
        exact ⟨a, C, dx, fs, w, rfl, hcl, hH, a2 w e1, fw, rw', fun b hb => l b (List.mem_cons_of_mem _ (sb.subset hb))⟩
    · cases e
  · cases e
end
section
variable {X : Cx} {W : WX} {Z : SC} {Γx Γ Γ' : Ctx} {n r x : Nat} {m m1 m2 m3 : List Nat} {σ : St} {H : Hp} {lab : Labs} {σD : List D} {pos p px apos ipos tpos : Pos} {R : List Lab} {k k1 : Kd} {ks : List AK} {gs : List D → ER (List D)} {tg e ie o : Expr} {nx c f : Str} {g gi : List D → ER D}
def sSetFld (r : Nat) (c f : Str) (gv : List D → ER D) : List D → SO := sOf gv fun v σ => match σ.getD r .non with
  | .ins c' fds => if c' = c ∧ fds.length < 100 then .nxt (σ.set r (.ins c (putD f v fds))) else .stuck
  | _ => .stuck
end
end Ow


namespace Ow
open PySem PySem.Spec PySem.SeqAt PyProof.Rows L2
section
variable {X : Cx} {CX : CXT} {k : Nat} {f C : Addr} {fd : FuncData} {ps : List Str} {sp : Sp} {E : L2.St → XK} {x m : Str} {p pos apos : Pos} {e o : Expr} {es : List Expr} {ta : TE} {t : TA}
end
def okM (c m : Str) : D → Bool
  | .ins c' fds => decide (c' = c) && (fds.lookup m).isNone
  | _ => false
/-- the object, looked at before the arguments -/
def gIns (c m : Str) (g : List D → ER D) : List D → ER D := fun σ => (g σ).bind fun d σ1 => if okM c m d = true then .ok d σ1 else .stuck
def eCallS (c m : Str) (r : Nat) (F : List D → FR) (rs : List Nat) (gs : List D → ER (List D)) : List D → ER D := fun σ => if okM c m (σ.getD r .non) = true then eCall F rs (aSlot r gs) σ else .stuck
theorem lookup_none {fs : List (Str × V)} {fds : List (Str × D)} {f : Str} (e : fs.map (·.1) = fds.map (·.1)) (h : fds.lookup f = none) : fs.lookup f = none := by
  induction fds generalizing fs with
  | nil => cases fs with
    | nil => rfl
    | cons a b => cases e
  | cons a b ih =>
    obtain ⟨g, x⟩ := a
    cases fs with
    | nil => cases e
    | cons q r =>
      obtain ⟨g', y⟩ := q
      rw [List.map_cons, List.map_cons] at e
      injection e with e1 e2
      have e1 : g' = g := e1
      subst e1
      by_cases hg : f = g'
      · subst hg; simp [List.lookup] at h
      · have hb : (f == g') = false := beq_eq_false_iff_ne.mpr hg
        have h2 : b.lookup f = none := by simpa [List.lookup, hb] using h
        have := ih e2 h2
        simpa [List.lookup, hb] using this
section
variable {X : Cx} {W : WX} {Γx Γ : Ctx} {n lv np r : Nat} {m m1 m2 : List Nat} {ks : List AK} {rs io : List Nat} {own : Bool} {Fd : List D → FR} {c mt nx : Str} {p pos apos px : Pos} {e o : Expr} {es : List Expr} {gs : List D → ER (List D)} {g : List D → ER D} {R : List Lab}
theorem VR.okM {K : PySem.W.Frag} {cl : CE} {H : Hp} {lab : Labs} {t : Lab} {v : V} {d : D} (h : VR K cl H lab (.bor R) t v d) (e : okM c mt d = true) : ∃ a C dx fs, v = .ref a ∧ cl.cl c C ∧ H a = some (.ins C dx fs) ∧ fs.lookup mt = none := by
  obtain ⟨fp, rp, _⟩ := h
  cases rp with
  | ins hc hH hk rr =>
    simp only [Ow.okM, Bool.and_eq_true, decide_eq_true_eq, Option.isNone_iff_eq_none] at e
    obtain ⟨rfl, e2⟩ := e
    exact ⟨_, _, _, _, rfl, hc, hH, lookup_none hk e2⟩
  | _ => cases e
end
end Ow


namespace Ow
open PySem PySem.Spec PySem.SeqAt PyProof.Rows L2
section
variable {X : Cx} {CX : CXT} {k : Nat} {f C : Addr} {fd : FuncData} {ps : List Str} {sp : Sp} {E : L2.St → XK} {x m : Str} {p pos apos : Pos} {e o : Expr} {es : List Expr} {ta : TE} {t : TA}
end
def eMake (c : Str) (Fd : List D → FR) (gs : List D → ER (List D)) : List D → ER D := fun σ => (gs σ).bind fun ds σ1 => match Fd (.ins c [] :: ds) with
  | .stuck => .stuck
  | .ret d outs => (match d, outs with
    | .non, [o] => .ok o σ1
    | _, _ => .stuck)
  | .exc c p outs => .exc c p σ1
section
variable {X : Cx} {W : WX} {Γx Γ : Ctx} {n lv np r : Nat} {m m1 m2 : List Nat} {ks : List AK} {rs io : List Nat} {own : Bool} {Fd : List D → FR} {c mt nx x : Str} {p pos apos px : Pos} {e o : Expr} {es : List Expr} {gs : List D → ER (List D)} {g : List D → ER D} {R : List Lab}
end
end Ow


namespace Ow
open PySem PySem.Spec PySem.SeqAt PyProof.Rows L2
section
variable {X : Cx} {W : WX} {Z : SC} {Γx Γ Γ' : Ctx} {n r : Nat} {m m1 m2 : List Nat} {pos p px apos fpos tpos : Pos} {k : Kd} {ks : List AK} {gs : List D → ER (List D)} {e ie : Expr} {nx c f : Str} {g gi gv : List D → ER D}
end
section
variable {P : Program} {w : World} {K : PySem.W.Frag} {mg : Str → Option Value} {base : Heap}
end
end Ow


namespace Ow
open PySem PySem.Spec PySem.SeqAt PyProof.Rows L2
section
variable {X : Cx} {W : WX} {Z : SC} {Γx Γ Γ' : Ctx} {n r : Nat} {m m1 m2 : List Nat} {pos : Pos} {H H1 : Hp} {lab lab1 : Labs}
def sPar3 (i j l : Nat) (gs : List D → ER (List D)) : List D → SO := fun σ => match gs σ with
  | .stuck => .stuck
  | .exc c p σ1 => .exc c p σ1
  | .ok [x, y, z] σ1 => .nxt (((σ1.set i x).set j y).set l z)
  | .ok _ _ => .stuck
end
end Ow


namespace Ow
open PySem PySem.Spec PySem.SeqAt PyProof.Rows L2
section
variable {X : Cx} {W : WX} {Z : SC} {Γx Γ Γ' : Ctx} {n r : Nat} {m m1 m2 : List Nat} {σ : L2.St} {H : Hp} {lab : Labs} {σD : List D} {pos pt px : Pos} {c nx f : Str} {e : Expr} {g : List D → ER D}
end
end Ow


namespace Ow
open PySem PySem.Spec PySem.SeqAt PyProof.Rows L2
section
variable {X : Cx} {W : WX} {Z : SC} {Γx Γ Γ' : Ctx} {n r : Nat} {m m1 m2 m3 : List Nat} {pos p px tpos : Pos} {e : Expr} {nx c f : Str} {g : List D → ER D}
end
end Ow


namespace Ow
open PySem PySem.Spec PySem.SeqAt PyProof.Rows L2
section
variable {X : Cx} {W : WX} {Γx Γ : Ctx} {n : Nat} {m m1 m2 : List Nat} {pos apos : Pos} {k : Kd} {ks : List AK} {gs : List D → ER (List D)} {e o : Expr} {g : List D → ER D}
end
end Ow


namespace Ow
open PySem PySem.Spec PySem.SeqAt PyProof.Rows L2
section
variable {X : Cx} {W : WX} {Γx Γ : Ctx} {n : Nat} {m : List Nat} {e : Expr} {g : List D → ER D} {R : List Lab}
end
end Ow


namespace Ow
open PySem PySem.Spec PySem.SeqAt PyProof.Rows L2
section
variable {X : Cx} {W : WX} {Γx Γ : Ctx} {n : Nat} {m1 m2 : List Nat} {pos p px ipos : Pos} {k k1 : Kd} {a b : Expr} {ga gb : List D → ER D}
end
end Ow


namespace Ow
open PySem PySem.Spec PySem.SeqAt PyProof.Rows L2
abbrev Suite := Addr → Value → Option Addr → TS
/-- what the clauses ask, the first one first -/
def asks (K : PySem.W.Frag) (W : WX) (E : Ends) : List (Value × Nat × Suite) → WX
  | [] => W
  | q :: l => wAs K q.1 q.2.1 q.2.2 (asks K W E l) E
section
variable {X : Cx} {W : WX} {pins : List (Addr × Obj)} {D : Ends}
end
end Ow


namespace Ow
open PySem PySem.Spec PySem.SeqAt PyProof.Rows L2
/-- which exceptions a clause takes, the slot of its name, its suite -/
abbrev ClD := (Str → Option Bool) × Nat × (List D → SO)
def catchM : List ClD → Str → D → List D → SO
  | [], c, p, σ => .exc c p σ
  | q :: l, c, p, σ => match q.1 c with
    | none => .stuck
    | some true => (q.2.2 (σ.set q.2.1 (.exn c p))).noExc
    | some false => catchM l c p σ
def sTryM (G : List D → SO) (cs : List ClD) : List D → SO := fun σ => match G σ with
  | .exc c p σ1 => catchM cs c p σ1
  | r => r
section
variable {X : Cx} {W : WX} {Z : SC} {Γ Γ1 Γt : Ctx} {n : Nat} {m1 ms : List Nat} {pos : Pos}
end
end Ow


namespace Ow
open PySem PySem.Spec PySem.SeqAt PyProof.Rows L2
section
variable {P : Program} {w : World} {K : PySem.W.Frag} {mg : Str → Option Value} {base : Heap}
end
section
variable {X : Cx} {CX : CXT} {x : Str} {C fI : Addr} {k : Nat} {fd : FuncData} {ps : List Str} {sp : Sp} {e : Expr} {es : List Expr} {ta : TA} {p pos : Pos}
end
end Ow


namespace Ow
open PySem PySem.Spec PySem.SeqAt PyProof.Rows L2
def sRaiseF (c : Str) (gs : List D → ER (List D)) : List D → SO := fun σ => match gs σ with
  | .ok [d] σ1 => .exc c d σ1
  | .exc c' p σ1 => .exc c' p σ1
  | _ => .stuck
def eXf (f : Str) (g : List D → ER D) : List D → ER D := fun σ => (g σ).bind fun d σ1 => match d with
  | .exn c p => if pfOf c = some f ∧ c ∈ excAll then .ok p σ1 else .stuck
  | _ => .stuck
section
variable {X : Cx} {W : WX} {Z : SC} {Γx Γ Γ' Γ1 : Ctx} {n lv : Nat} {m : List Nat} {p pos pos2 : Pos} {e : Expr} {gs : List D → ER (List D)} {g : List D → ER D} {c f : Str} {R : List Lab}
end
section
variable {P : Program} {w : World} {K : PySem.W.Frag} {mg : Str → Option Value} {base : Heap}
end
end Ow


namespace Ow
open PySem PySem.Spec PySem.SeqAt PyProof.Rows L2
section
variable {prog : Program} {w : World} {A : Around} {E : Value → Shared → Prop} {s : Shared}
end
section
variable {X : Cx} {pins : List (Addr × Obj)} {s : Shared} {σ : L2.St} {H : Hp} {Q : VK} {elt tg iter : Expr} {ifs : List Expr} {scope : Scope} {own : List (Str × Nat)} {pos pos' : Pos} {wi : TI} {g : TG} {tt : TT} {te : TE}
end
end Ow


namespace Ow
open PySem PySem.Spec PySem.SeqAt PyProof.Rows L2
section
variable {X : Cx} {pins : List (Addr × Obj)} {σ : L2.St} {Q : VK} {elt tg iter : Expr} {ifs : List Expr} {scope : Scope} {own : List (Str × Nat)} {pos pos' : Pos} {wi : TI} {g : TG} {tt : TT} {te : TE}
end
end Ow


namespace Ow
open PySem PySem.Spec PySem.SeqAt PyProof.Rows L2
section
variable {X : Cx} {elt tg iter : Expr} {ifs : List Expr} {scope : Scope} {own : List (Str × Nat)} {pos spos py : Pos} {wi : TI} {g : TG} {tt : TT} {te : TE} {i : Nat} {y : Str}
end
section
variable {X : Cx} {W : WX} {Z : SC} {Γx Γ Γ' : Ctx} {n : Nat} {m m1 mt me : List Nat} {pos spos py : Pos} {R : List Lab} {k : Kd} {elt tg iter : Expr} {ifs : List Expr} {scope : Scope} {own : List (Str × Nat)} {T : Tg} {vr : List Nat} {gi : List D → ER (List D)} {gt : List D → ER Bool} {ge : List D → ER D} {s0 : Shared} {H0 : Hp} {ce : Env} {fp : List Addr}
end
end Ow


namespace Ow
open PySem PySem.Spec PySem.SeqAt PyProof.Rows L2
section
variable {prog : Program} {w : World} {A : Around} {E : Value → Shared → Prop} {s : Shared}
end
section
variable {X : Cx}
end
section
variable {X : Cx} {W : WX} {Γx Γ : Ctx} {n : Nat} {m : List Nat} {pos p p2 q : Pos} {k : Kd} {ks : List AK} {gs : List D → ER (List D)} {g : List D → ER D} {e : Expr}
end
end Ow


namespace Ow
open PySem PySem.Spec PySem.SeqAt PyProof.Rows L2
section
variable {X : Cx} {W : WX} {Z : SC} {Γx Γ Γ' : Ctx} {n : Nat} {m m1 m2 : List Nat} {pos p : Pos} {R : List Lab} {k : Kd} {tg iter a : Expr} {body : List Stmt} {gi gs : List D → ER (List D)} {G : List D → SO} {T : Tg}
end
end Ow


namespace Ow
open PySem PySem.Spec PySem.SeqAt PyProof.Rows L2
section
variable {X : Cx} {W : WX} {Γx Γ : Ctx} {n r : Nat} {m m1 m2 : List Nat} {pos p p2 px apos cpos pos2 : Pos} {k : Kd} {ks : List AK} {gs : List D → ER (List D)} {g : List D → ER D} {e o : Expr} {x : Str}
end
end Ow


namespace Ow
open PySem PySem.Spec PySem.SeqAt PyProof.Rows L2
section
variable {prog : Program} {w : World} {A : Around} {E : Value → Shared → Prop} {s : Shared}
end
section
variable {X : Cx} {pos : Pos}
end
section
variable {X : Cx} {W : WX} {Z : SC} {Γx Γ Γ' : Ctx} {n r : Nat} {m m1 m2 : List Nat} {pos : Pos} {H H1 : Hp} {lab lab1 : Labs}
end
end Ow


namespace Ow
open PySem PySem.Spec PyProof.Rows L2
theorem setMany_len : ∀ (is : List Nat) (ds σ0 σ1 : List D), setMany is ds σ0 = some σ1 → ds.length = is.length
  | [], [], _, _, _ => rfl
  | [], _ :: _, _, _, e => by cases e
  | _ :: _, [], _, _, e => by cases e
  | i :: is, d :: ds, σ0, σ1, e => by rw [List.length_cons, List.length_cons, setMany_len is ds _ _ e]
section
variable {X : Cx} {W : WX} {Z : SC} {Γ : Ctx} {n : Nat} {m : List Nat} {pos : Pos}
end
end Ow


namespace Ow
open PySem PySem.Spec PySem.SeqAt PyProof.Rows L2
section
variable {X : Cx} {W : WX} {Γ Γx : Ctx} {n lv np : Nat} {x : Str} {p pos : Pos} {own : Bool} {Fd : List D → FR}
end
end Ow


namespace Ow
open PySem PySem.Spec PySem.SeqAt PyProof.Rows L2
/-- a list's parts, each with its cells -/
theorem RpL.parts {K : PySem.W.Frag} {cl : CE} {H : Hp} : ∀ {vs : List V} {ds : List D} {fp : List Addr}, RpL K cl H vs ds fp → ∃ fs : List (List Addr), fp = fs.flatten ∧ fs.length = ds.length ∧ ∀ (k : Nat) v d f, vs[k]? = some v → ds[k]? = some d → fs[k]? = some f → Rp K cl H v d f
  | _, _, _, .nil => ⟨[], rfl, rfl, fun k v d f h => by simp at h⟩
  | _, _, _, .cons (f1 := f1) h r => by
    obtain ⟨fs, e, l, q⟩ := r.parts
    refine ⟨f1 :: fs, by rw [e]; rfl, by simp [l], fun k v d f a b c => ?_⟩
    cases k with
    | zero => cases a; cases b; cases c; exact h
    | succ k => exact q k v d f a b c
theorem RpL.ofParts {K : PySem.W.Frag} {cl : CE} {H : Hp} : ∀ {vs : List V} {ds : List D} (fs : List (List Addr)), vs.length = ds.length → fs.length = ds.length → (∀ (k : Nat) v d f, vs[k]? = some v → ds[k]? = some d → fs[k]? = some f → Rp K cl H v d f) → RpL K cl H vs ds fs.flatten
  | [], [], [], _, _, _ => .nil
  | v :: vs, d :: ds, f :: fs, h1, h2, q => .cons (q 0 v d f rfl rfl rfl) (RpL.ofParts fs (by simpa using h1) (by simpa using h2) fun k v d f a b c => q (k + 1) v d f a b c)
  | [], d :: ds, _, h, _, _ => by cases h
  | v :: vs, [], _, h, _, _ => by cases h
  | [], [], f :: fs, _, h, _ => by cases h
  | v :: vs, d :: ds, [], _, h, _ => by cases h
theorem set2_get {α : Type} {l : List α} {i j k : Nat} {a b : α} (hi : i < l.length) (hj : j < l.length) : ((l.set i a).set j b)[k]? = if k = j then some b else if k = i then some a else l[k]? := by
  by_cases e : k = j
  · subst e
    rw [if_pos rfl, List.getElem?_set_self (by rw [List.length_set]; exact hj)]
  · rw [if_neg e, List.getElem?_set_ne (Ne.symm e)]
    by_cases e2 : k = i
    · subst e2
      rw [if_pos rfl, List.getElem?_set_self hi]
    · rw [if_neg e2, List.getElem?_set_ne (Ne.symm e2)]
theorem RpL.swap {K : PySem.W.Frag} {cl : CE} {H : Hp} {vs : List V} {ds : List D} {fp : List Addr} (h : RpL K cl H vs ds fp) {i j : Nat} {vi vj : V} {di dj : D} (a : vs[i]? = some vi) (b : vs[j]? = some vj) (c : ds[i]? = some di) (d : ds[j]? = some dj) :
    ∃ f', RpL K cl H ((vs.set i vj).set j vi) ((ds.set i dj).set j di) f' ∧ f'.Perm fp := by
  have len := h.len
  obtain ⟨fs, rfl, l, q⟩ := h.parts
  have ci := (List.getElem?_eq_some_iff.mp c).1
  have cj := (List.getElem?_eq_some_iff.mp d).1
  have li : i < fs.length := by omega
  have lj : j < fs.length := by omega
  refine ⟨_, RpL.ofParts ((fs.set i fs[j]).set j fs[i]) (by simp [len]) (by simp [l]) fun k v w f h1 h2 h3 => ?_, (List.set_set_perm li lj).flatten⟩
  rw [set2_get (by omega) (by omega)] at h1 h2 h3
  by_cases e : k = j
  · rw [if_pos e] at h1 h2 h3
    cases h1; cases h2; cases h3
    exact q i _ _ _ a c (List.getElem?_eq_getElem li)
  · rw [if_neg e] at h1 h2 h3
    by_cases e2 : k = i
    · rw [if_pos e2] at h1 h2 h3
      cases h1; cases h2; cases h3
      exact q j _ _ _ b d (List.getElem?_eq_getElem lj)
    · rw [if_neg e2] at h1 h2 h3
      exact q k v w f h1 h2 h3
def sSwapIx (r i j : Nat) : List D → SO := fun σ => match σ.getD r .non, σ.getD i .non, σ.getD j .non with
  | .lst ds, .int a, .int b => (match ixN ds.length a, ixN ds.length b with
    | some p, some q => .nxt (σ.set r (.lst ((ds.set p (ds.getD q .non)).set q (ds.getD p .non))))
    | _, _ => .stuck)
  | _, _, _ => .stuck
theorem atI_ixN {α : Type} {xs : List α} {i : Int} {j : Nat} (h : ixN xs.length i = some j) : ∃ v, xs[j]? = some v ∧ atI xs i = some v := by
  have l := (ixN_seq h).2.1
  exact ⟨xs[j], List.getElem?_eq_getElem l, by unfold atI; rw [h]; exact List.getElem?_eq_getElem l⟩
section
variable {X : Cx} {W : WX} {Z : SC} {Γ : Ctx} {n r i j : Nat} {pos p1 p2 p3 p4 p5 p6 p7 p8 t1 t2 s1 s2 : Pos} {xs x y : Str} {pt pt2 : Pos} {kt k2} {ki kj : Kd}
theorem sj_swapIx (hc : X.calm = true) (hr : Γ[r]? = some (some .own)) (hi : Γ[i]? = some (some ki)) (hj : Γ[j]? = some (some kj)) (hx : ∀ p, PE X (.Name xs p) (tVar r)) (hxi : ∀ p, PE X (.Name x p) (tVar i)) (hxj : ∀ p, PE X (.Name y p) (tVar j)) (hb : noBor Γ r = true := by decide)
    (ne : (decide (i ≠ r) && decide (j ≠ r)) = true := by rfl)
    (ha1 : ∀ v, assign (.Subscript (.Name xs p1) (.Name x p2) t1) X.env v = (do
      let ov ← holding [v] (eval (.Name xs p1) X.env)
      let iv ← holding [v, ov] (eval (.Name x p2) X.env)
      standAt t1
      holding [v, ov, iv] (setItem ov iv v)
      release [v, ov, iv] []) := by intro _; rfl)
    (ha2 : ∀ v, assign (.Subscript (.Name xs p3) (.Name y p4) t2) X.env v = (do
      let ov ← holding [v] (eval (.Name xs p3) X.env)
      let iv ← holding [v, ov] (eval (.Name y p4) X.env)
      standAt t2
      holding [v, ov, iv] (setItem ov iv v)
      release [v, ov, iv] []) := by intro _; rfl)
    (b1 : PlainIx (.Name y p6) := by exact fun _ _ => rfl) (b2 : PlainIx (.Name x p8) := by exact fun _ _ => rfl)
    (he1 : starEach [.Subscript (.Name xs p5) (.Name y p6) s1, .Subscript (.Name xs p7) (.Name x p8) s2] X.env = (false, eval (.Subscript (.Name xs p5) (.Name y p6) s1) X.env) :: starEach [.Subscript (.Name xs p7) (.Name x p8) s2] X.env := by rfl)
    (he2 : starEach [.Subscript (.Name xs p7) (.Name x p8) s2] X.env = (false, eval (.Subscript (.Name xs p7) (.Name x p8) s2) X.env) :: starEach [] X.env := by rfl)
    (hp1 : (assignEach [.Subscript (.Name xs p1) (.Name x p2) t1, .Subscript (.Name xs p3) (.Name y p4) t2] X.env).map (·.2) = assign (.Subscript (.Name xs p1) (.Name x p2) t1) X.env :: (assignEach [.Subscript (.Name xs p3) (.Name y p4) t2] X.env).map (·.2) := by rfl)
    (hp2 : (assignEach [.Subscript (.Name xs p3) (.Name y p4) t2] X.env).map (·.2) = assign (.Subscript (.Name xs p3) (.Name y p4) t2) X.env :: (assignEach [] X.env).map (·.2) := by rfl)
    (hn : (assignEach [.Subscript (.Name xs p1) (.Name x p2) t1, .Subscript (.Name xs p3) (.Name y p4) t2] X.env).length = 2 := by rfl) (hst : (assignEach [.Subscript (.Name xs p1) (.Name x p2) t1, .Subscript (.Name xs p3) (.Name y p4) t2] X.env).findIdx? (·.1) = none := by rfl)
    (hs : swapsWithSole [.Tuple [.Subscript (.Name xs p1) (.Name x p2) t1, .Subscript (.Name xs p3) (.Name y p4) t2] kt pt] (.Tuple [.Subscript (.Name xs p5) (.Name y p6) s1, .Subscript (.Name xs p7) (.Name x p8) s2] k2 pt2) pos.line X.env = pure false := by rfl)
    (hw : swappedStores [.Tuple [.Subscript (.Name xs p1) (.Name x p2) t1, .Subscript (.Name xs p3) (.Name y p4) t2] kt pt] (.Tuple [.Subscript (.Name xs p5) (.Name y p6) s1, .Subscript (.Name xs p7) (.Name x p8) s2] k2 pt2) X.env = pure none := by rfl)
    (h1 : (assignEach [.Tuple [.Subscript (.Name xs p1) (.Name x p2) t1, .Subscript (.Name xs p3) (.Name y p4) t2] kt pt] X.env).map (·.2) = [assign (.Tuple [.Subscript (.Name xs p1) (.Name x p2) t1, .Subscript (.Name xs p3) (.Name y p4) t2] kt pt) X.env] := by rfl) :
    SJ X W Z Γ Γ n [r] (.Assign [.Tuple [.Subscript (.Name xs p1) (.Name x p2) t1, .Subscript (.Name xs p3) (.Name y p4) t2] kt pt] (.Tuple [.Subscript (.Name xs p5) (.Name y p6) s1, .Subscript (.Name xs p7) (.Name x p8) s2] k2 pt2) pos) (sSwapIx r i j) := by
  have right := pe_tup (x1 := k2) (pos := pt2) (pa_cons (pe_ix (pos := s1) ix_seq (hx p5) (hxj p6) b1) (pa_cons (pe_ix (pos := s2) ix_seq (hx p7) (hxi p8) b2) pa_nil he2) he1)
  have left := pg_tup (pos := pt) (k := kt) hc (pgs_cons (pg_sub (hx p1) (hxi p2) set_list ha1) (pgs_cons (pg_sub (hx p3) (hxj p4) set_list ha2) pgs_nil hp2) hp1) hn hst
  refine ps_imp (ps_asg right left hs hw h1) fun E σ H h => ?_
  obtain ⟨σD, lab, fx, g0, s, po⟩ := h
  obtain ⟨vr, hvr, r3⟩ := s.s.get hr
  obtain ⟨vi, hvi, ri⟩ := s.s.get hi
  obtain ⟨vj, hvj, rj⟩ := s.s.get hj
  unfold sSwapIx at po
  cases er : σD.getD r .non with
  | lst ds =>
    cases ei : σD.getD i .non with
    | int a =>
      cases ej : σD.getD j .non with
      | int b =>
        rw [er, ei, ej] at po
        rw [er] at r3
        rw [ei] at ri
        rw [ej] at rj
        have q1 := ri.int
        have q2 := rj.int
        subst q1 q2
        dsimp only at po
        cases ea : ixN ds.length a with
        | none => rw [ea] at po; exact po.elim
        | some p =>
          cases eb : ixN ds.length b with
          | none => rw [ea, eb] at po; exact po.elim
          | some q =>
            rw [ea, eb] at po
            dsimp only at po
            obtain ⟨l, vs, fp, rfl, hH, rl, na, nd, la, lf⟩ := r3.own_lst
            have len := rl.len
            obtain ⟨wp, hp, tp⟩ := atI_ixN (xs := vs) (i := a) (j := p) (by rw [len]; exact ea)
            obtain ⟨wq, hq, tq⟩ := atI_ixN (xs := vs) (i := b) (j := q) (by rw [len]; exact eb)
            have lp := (ixN_seq ea).2.1
            have lq := (ixN_seq eb).2.1
            have dp : ds[p]? = some (ds.getD p .non) := by rw [List.getD_eq_getElem?_getD, List.getElem?_eq_getElem lp]; rfl
            have dq : ds[q]? = some (ds.getD q .non) := by rw [List.getD_eq_getElem?_getD, List.getElem?_eq_getElem lq]; rfl
            obtain ⟨f', sw, pm⟩ := rl.swap hp hq dp dq
            refine ⟨.ref l, hvr, .int b, hvj, .inl ⟨l, vs, b, wq, rfl, rfl, .of hH, tq, ?_⟩⟩
            refine ⟨.ref l, hvr, .int a, hvi, .inl ⟨l, vs, a, wp, rfl, rfl, .of hH, tp, ?_⟩⟩
            refine ⟨by rw [sizeLine_eq]; simp, fun t ht => ?_⟩
            have ne' : decide (i ≠ r) = true ∧ decide (j ≠ r) = true := by rwa [Bool.and_eq_true] at ne
            have tl : l ≠ t := fun e => by rw [e, ht] at hH; cases hH
            have P : Pres [] n H lab (upd H t (.tup [wq, wp])) (setL lab t (.tmp n)) := .alloc ht rfl
            have s1 := s.s.pres g0 P
            have H1l : (upd H t (.tup [wq, wp])) l = some (.lst vs) := by rw [upd_ne tl]; exact hH
            refine ⟨t, [wq, wp], rfl, .of upd_same, rfl, wq, [wp], rfl, ?_⟩
            refine ⟨.ref l, hvr, .int a, hvi, l, vs, a, p, rfl, rfl, H1l, by rw [len]; exact ea, ?_⟩
            refine ⟨wp, [], rfl, .ref l, hvr, .int b, hvj, l, vs.set p wq, b, q, rfl, rfl, upd_same, by rw [List.length_set, len]; exact eb, rfl, ?_⟩
            obtain ⟨o, ho⟩ : ∃ o, o = HO.lst ((vs.set p wq).set q wp) := ⟨_, rfl⟩
            have up : upd (upd (upd H t (.tup [wq, wp])) l (.lst (vs.set p wq))) l (.lst ((vs.set p wq).set q wp)) = upd (upd H t (.tup [wq, wp])) l o := by
              rw [ho]
              funext z
              unfold upd
              split <;> rfl
            rw [up]
            have rl2 : RpL X.K (clX X) (upd H t (.tup [wq, wp])) ((vs.set p wq).set q wp) ((ds.set p (ds.getD q .non)).set q (ds.getD p .non)) f' := sw.ext P.tk fun z hz => by
              refine upd_ne fun e => ?_
              obtain ⟨u, hu, _⟩ := sw.alloc z hz
              rw [e, ht] at hu; cases hu
            have la1 : (setL lab t (.tmp n)) l = .slt r := by show (if l = t then _ else _) = _; rw [if_neg tl]; exact la
            have nf : l ∉ f' := fun z => na (pm.mem_iff.mp z)
            obtain ⟨s3, p3⟩ := s1.mut (fz := []) (f' := l :: f') (d' := .lst ((ds.set p (ds.getD q .non)).set q (ds.getD p .non))) (o := o) g0 hb hr hvr H1l True.intro (.lst (by rw [ho]; exact upd_same) (rl2.disj nf ⟨_, H1l, True.intro⟩)) (by rw [List.append_nil]; exact List.nodup_cons.mpr ⟨nf, pm.nodup_iff.mpr nd⟩) (fun z hz => by
              simp only [List.append_nil, List.mem_cons] at hz
              rcases hz with e | e | e
              · exact .inl (by rw [e]; exact la1)
              · exact .inl (by rw [e]; exact la1)
              · refine .inl ?_
                have zt : z ≠ t := fun e2 => by
                  obtain ⟨u, hu, _⟩ := sw.alloc z e
                  rw [e2, ht] at hu; cases hu
                show (if z = t then _ else _) = _
                rw [if_neg zt]
                exact lf z (pm.mem_iff.mp e))
            exact po σ _ _ ⟨s3, s.f⟩ ((P.mono (SubK.nil _ _)).trans p3 (SubK.refl _ _) (SubK.refl _ _))
      | _ => rw [er, ei, ej] at po; exact po.elim
    | _ => rw [er, ei] at po; exact po.elim
  | _ => rw [er] at po; exact po.elim
end
section
variable {X : Cx} {W : WX} {Z : SC} {Γ : Ctx} {n i : Nat} {m : List Nat} {pos px : Pos} {x : Str} {e : Expr} {g : List D → ER D} {k k1 : Kd}
theorem sj_augOf {f : D → D → Option D} {r : R2} {op : Operator} (sf : ScalOp f r) (ip : PIp X op r) (nd : X.N.Nodup) (hi : X.N[i]? = some x) (h0 : Γ[i]? = some (some k)) (he : EJ X W Z.Γx Γ n m e g k1) (hx : Loc X.env.scope x) (free : Z.io.contains i = false) (hf : X.fn x = true ∨ X.env.scope.names.lookup x = some .local) :
    SJ X W Z Γ (putC Γ i .own) n (m ++ [i]) (.AugAssign (.Name x px) op e pos) (sSet i (eBin f (eVar i) g)) := by
  refine ps_imp (ps_aug nd hi hx he ip hf) fun E σ H hh => ?_
  obtain ⟨σD, lab, fx, g0, s, po⟩ := hh
  have both : ∀ σ H Q, rdE X W Z.Γx Γ n ([] ++ m) .own (eBin f (eVar i) g) σ H Q → tOp r (tVar i) (rdE X W Z.Γx Γ n m k1 g) σ H Q := fun σ H Q q => bin_imp (k := borK i k) sf (fun σ H Q hq => by
    obtain ⟨σD, lab, g, sr, po⟩ := hq
    obtain ⟨v, hv, hr⟩ := sr.get h0
    exact ⟨v, hv, po v H lab sr (.refl _ _ _ _) hr.borrow⟩) (fun _ _ _ q => q) σ H Q q
  refine sof_imp both g0 s po fun d σD1 v H1 lab1 s1 p1 r1 po1 => ?_
  have hlt : i < X.N.length := (List.getElem?_eq_some_iff.mp hi).1
  refine po1 (σ.set i (some v)) H1 (labPut i n lab1) ⟨s1.s.put g0 hlt r1 rfl, fun j hj => ?_⟩ .put
  rw [List.getElem?_set_ne]
  · exact s1.f j hj
  · rintro rfl
    have : Z.io.contains i = true := by simpa using hj
    rw [this] at free; cases free
theorem ip_of {op : Operator} {f : Int → Int → Int} (h : PIp X op (ipI f)) : PIp X op (rI0 fun i j => .int (f i j)) := fun pins s σ H x y v u Q I r1 r2 q => h pins s σ H x y v u Q I r1 r2 q
theorem sj_augSub (nd : X.N.Nodup) (hi : X.N[i]? = some x) (h0 : Γ[i]? = some (some k)) (he : EJ X W Z.Γx Γ n m e g k1) (hx : Loc X.env.scope x := by first | exact Or.inl rfl | exact Or.inr rfl) (free : Z.io.contains i = false := by decide) (hf : X.fn x = true ∨ X.env.scope.names.lookup x = some .local := by first | exact .inl rfl | exact .inr rfl) :
    SJ X W Z Γ (putC Γ i .own) n (m ++ [i]) (.AugAssign (.Name x px) .Sub e pos) (sSet i (eBin dSub (eVar i) g)) := sj_augOf so_sub (ip_of ip_sub) nd hi h0 he hx free hf
end
end Ow


namespace Ow
open PySem PySem.Spec PySem.SeqAt PyProof.Rows L2
section
variable {X : Cx} {W : WX} {Z : SC} {Γx Γ Γ' Γ1 Γ2 : Ctx} {n i : Nat} {m m1 m2 m3 : List Nat} {pos p px : Pos} {R : List Lab} {f x : Str} {e a b c : Expr} {g ga gb : List D → ER D} {tg : List D → ER Bool} {k : Kd}
end
end Ow


namespace Ow
open PySem PySem.Spec PySem.SeqAt PyProof.Rows L2
def dCatS : D → D → Option D
  | .str a, .str b => if a.length + b.length ≤ sizeLine then some (.str (a ++ b)) else none
  | _, _ => none
def fStrI : List D → Option D
  | [.int i] => if i.natAbs.log2 < 1920 then some (.str (toString i)) else none
  | _ => none
section
variable {X : Cx} {W : WX} {Γx Γ : Ctx} {n : Nat} {m m1 m2 m3 : List Nat} {pos p : Pos} {a b e o tg : Expr} {g ga gb : List D → ER D} {gs : List D → ER (List D)} {k k1 : Kd} {ks : List AK}
end
end Ow


namespace Ow
open PySem PySem.Spec PySem.SeqAt PyProof.Rows L2
section
variable {X : Cx} {W : WX} {Γx Γ : Ctx} {n : Nat} {m m1 m2 : List Nat} {pos p1 p2 p3 : Pos} {a b e : Expr} {g ga gb : List D → ER D} {k k1 : Kd}
end
end Ow


namespace Ow
open PySem PySem.Spec PySem.SeqAt PyProof.Rows L2
theorem Cx.Ok.any {Y : Cx} {E' : Value → Shared → Prop} (k : Y.Ok) : ({ Y with xe := E' } : Cx).Ok := ⟨k.mod, k.kind, k.glob, k.blt, k.above, k.inj, k.has, k.cab, k.hd, k.frames, k.stk, k.exf, k.bs, k.bsz, k.noex, k.exfs, k.funs, k.frf⟩
theorem Inv.any {Y : Cx} {E' : Value → Shared → Prop} {pins : List (Addr × Obj)} {σ : L2.St} {H : Hp} {s : Shared} (i : L2.Inv Y pins σ H s) : L2.Inv { Y with xe := E' } pins σ H s := ⟨Cx.Ok.any i.ok, i.os, i.bare, i.base, i.loc, i.cell, i.free, i.freeC, i.pin, i.hok, i.len⟩
theorem Cx.Ok.back {Y : Cx} {E' : Value → Shared → Prop} (k : ({ Y with xe := E' } : Cx).Ok) : Y.Ok := ⟨k.mod, k.kind, k.glob, k.blt, k.above, k.inj, k.has, k.cab, k.hd, k.frames, k.stk, k.exf, k.bs, k.bsz, k.noex, k.exfs, k.funs, k.frf⟩
theorem Inv.back {Y : Cx} {E' : Value → Shared → Prop} {pins : List (Addr × Obj)} {σ : L2.St} {H : Hp} {s : Shared} (i : L2.Inv { Y with xe := E' } pins σ H s) : L2.Inv Y pins σ H s := ⟨Cx.Ok.back i.ok, i.os, i.bare, i.base, i.loc, i.cell, i.free, i.freeC, i.pin, i.hok, i.len⟩
section
variable {X : Cx} {W : WX} {pins : List (Addr × Obj)} {σ : L2.St} {H H3 : Hp} {Q : VK} {s3 : Shared} {elt tg iter : Expr} {ifs : List Expr} {scope : Scope} {own : List (Str × Nat)} {pos pos' : Pos} {wi : TI} {g : TG} {tt : TT} {te : WX → TE} {fp : List Addr} {ce : Env} {E' : Value → Shared → Prop}
end
end Ow


namespace Ow
open PySem PySem.Spec PyProof.Rows L2
section
variable {X X' : Cx} {W : WX} {Γx Γ Γ' : Ctx} {n : Nat} {m m1 m2 mt me : List Nat} {σ : St} {H : Hp} {lab : Labs} {σD : List D} {pos : Pos} {R R2 : List Lab} {fx : Nat → V} {io vs : List Nat}
end
section
variable {X : Cx} {W : WX} {Z : SC} {Γx Γ Γ' : Ctx} {n : Nat} {m1 mt me : List Nat} {pos spos py : Pos} {R : List Lab} {k : Kd} {elt tg iter : Expr} {ifs : List Expr} {scope : Scope} {own : List (Str × Nat)} {T : Tg} {gi : List D → ER (List D)} {gt : List D → ER Bool} {ge : List D → ER D}
end
end Ow


namespace Ow
open PySem PySem.Spec PySem.SeqAt PyProof.Rows L2
def isInt : D → Bool
  | .int _ => true
  | _ => false
theorem RpL.whole {K : PySem.W.Frag} {cl : CE} {H : Hp} : ∀ {vs : List V} {ds : List D} {fp : List Addr}, RpL K cl H vs ds fp → ds.all isInt = true → ∃ ns : List Int, vs = ns.map V.int ∧ ds = ns.map D.int
  | _, _, _, .nil, _ => ⟨[], rfl, rfl⟩
  | _, _, _, .cons h r, e => by
    rw [List.all_cons, Bool.and_eq_true] at e
    obtain ⟨ns, e1, e2⟩ := RpL.whole r e.2
    cases h with
    | int i => exact ⟨i :: ns, by rw [e1]; rfl, by rw [e2]; rfl⟩
    | _ => cases e.1
section
variable {X : Cx} {W : WX} {Γx Γ : Ctx} {n : Nat} {m : List Nat} {pos p : Pos} {e : Expr} {gs : List D → ER (List D)} {ks : List AK}
end
end Ow


namespace Ow
open PySem PySem.Spec PySem.SeqAt PyProof.Rows L2
end Ow


namespace Ow
open PySem PySem.Spec PySem.SeqAt PyProof.Rows L2
section
variable {X : Cx} {W : WX} {Z : SC} {Γx Γ Γ1 Γt : Ctx} {n : Nat} {m m1 m2 : List Nat} {pos p px apos cpos : Pos} {k k1 k2 : Kd} {e f : Expr} {x : Str} {ge gf : List D → ER D}
end
section
variable {P : Program} {w : World} {K : PySem.W.Frag} {mg : Str → Option Value} {base : Heap}
end
def sUnpT (is : List Nat) (g : List D → ER D) : List D → SO := sOf g fun d σ1 => match d with
  | .tup ds => (match setMany is ds σ1 with
    | some σ2 => .nxt σ2
    | none => .stuck)
  | _ => .stuck
theorem setsV_ne {j : Nat} : ∀ (is : List Nat) (vs : List V) (σ : L2.St), j ∉ is → (setsV σ is vs)[j]? = σ[j]?
  | [], _, _, _ => rfl
  | i :: is, [], _, _ => rfl
  | i :: is, v :: vs, σ, hn => by
    show (setsV (σ.set i (some v)) is vs)[j]? = _
    rw [setsV_ne is vs _ fun z => hn (List.mem_cons_of_mem _ z), List.getElem?_set_ne fun z => hn (by rw [z]; exact List.mem_cons_self)]
section
variable {X : Cx} {W : WX} {Z : SC} {Γ : Ctx} {n : Nat} {m : List Nat} {pos : Pos}
theorem sj_unpT {tg e : Expr} {is : List Nat} {g : List D → ER D} (he : EJ X W Z.Γx Γ n m e g .own) (hg : PG X tg (gTup X.K is.length (tgs is))) (ht : (is.all fun i => decide (i < X.N.length) && !Z.io.contains i) = true := by rfl)
    (hs : swapsWithSole [tg] e pos.line X.env = pure false := by rfl) (hw : swappedStores [tg] e X.env = pure none := by rfl) (h1 : (assignEach [tg] X.env).map (·.2) = [assign tg X.env] := by rfl) :
    SJ X W Z Γ (putOwn Γ is) n (m ++ is) (.Assign [tg] e pos) (sUnpT is g) := by
  refine ps_imp (ps_asg he hg hs hw h1) fun E σ H hh => ?_
  obtain ⟨σD, lab, fx, g0, s, po⟩ := hh
  refine sof_imp (fun _ _ _ q => q) g0 s po fun d σD1 v H1 lab1 s1 p1 r1 po1 => ?_
  have slots : ∀ i ∈ is, i < X.N.length ∧ i ∉ Z.io := fun i hi => by
    have := List.all_eq_true.mp ht i hi
    simpa using this
  cases d with
  | tup ds =>
    dsimp only at po1
    cases eb : setMany is ds σD1 with
    | none => rw [eb] at po1; exact po1.elim
    | some σD2 =>
      rw [eb] at po1
      obtain ⟨fp, rp, nd, l⟩ := r1
      cases rp with
      | tup h r =>
        rename_i a vs
        have len := (setMany_len _ _ _ _ eb).symm
        obtain ⟨lab2, each, out, own⟩ := each_of lab1 n r nd fun b hb => ⟨n, Nat.le_refl _, l b hb⟩
        have P : Pres [] n H1 lab1 H1 lab2 := .relab (fun b hb => by
          refine out b fun hf => ?_
          rw [l b hf] at hb
          simp [keepL] at hb) fun b hb => by
            by_cases hf : b ∈ fp
            · obtain ⟨j, _, e⟩ := own b hf
              rw [e] at hb; cases hb
            · exact (out b hf).symm
        obtain ⟨lab3, s3, p3⟩ := putMany is ds vs Γ σ σD1 σD2 lab2 n (s1.s.pres g0 P) g0 (fun i hi => (slots i hi).1) ⟨_, each⟩ eb
        refine ⟨a, vs, rfl, h, by rw [r.len]; exact len.symm, tgs_sets is vs σ H1 _ (by rw [r.len]; exact len) ?_⟩
        refine po1 (setsV σ is vs) H1 lab3 ⟨s3, fun j hj => ?_⟩ ((P.mono (.of (fun _ h => by cases h) (Nat.le_refl _))).trans (p3 (is) fun _ h => h) (SubK.refl _ _) (SubK.refl _ _))
        rw [setsV_ne is vs σ fun z => (slots j z).2 hj]
        exact s1.f j hj
  | _ => exact po1.elim
end
end Ow


namespace Ow
open PySem PySem.Spec PySem.SeqAt PyProof.Rows L2
section
variable {P : Program} {w : World} {K : PySem.W.Frag} {mg : Str → Option Value} {base : Heap}
end
section
variable {X : Cx} {W : WX} {Γx Γ : Ctx} {n lv np : Nat} {m : List Nat} {ks : List AK} {rs io : List Nat} {own : Bool} {Fd : List D → FR} {f : Addr} {fd : FuncData} {ps : List Str} {x : Str} {p pos : Pos} {e : Expr} {es : List Expr} {gs : List D → ER (List D)}
end
section
variable {X : Cx} {W : WX} {Γx Γ : Ctx} {n : Nat} {m : List Nat} {ks : List AK} {p pos : Pos} {e : Expr} {gs : List D → ER (List D)}
end
end Ow


namespace Ow
open PySem PySem.Spec PySem.SeqAt PyProof.Rows L2
section
variable {X : Cx} {W : WX} {Γx Γ : Ctx} {n : Nat} {m : List Nat} {ks : List AK} {p pos : Pos} {e : Expr} {gs : List D → ER (List D)}
end
section
variable {P : Program} {w : World} {K : PySem.W.Frag} {mg mb : Str → Option Value}
end
end Ow


namespace Ow
open PySem PySem.Spec PyProof.Rows L2
section
variable {X : Cx} {W : WX} {Γx Γ : Ctx} {n : Nat} {m1 m2 : List Nat} {pos : Pos} {a b : Expr} {ga gb : List D → ER D} {k k1 : Kd}
end
end Ow


namespace Ow
open PySem PySem.Spec PyProof.Rows L2
section
variable {X : Cx} {W : WX} {Z : SC} {Γx Γ Γ' : Ctx} {n r i c : Nat} {m m1 m2 : List Nat} {σ : St} {H : Hp} {lab : Labs} {σD : List D} {pos p px py apos ipos : Pos} {nx ny : Str}
end
end Ow


namespace Ow
open PySem PySem.Spec PyProof.Rows L2
section
variable {X : Cx} {W : WX} {Γx Γ : Ctx} {n : Nat} {m1 m2 : List Nat} {pos : Pos} {a b : Expr} {rest : List Expr} {ga gb : List D → ER D} {k k1 : Kd}
end
end Ow


namespace Ow
open PySem PySem.Spec PyProof.Rows L2
def SO.bnd (r : SO) (G : List D → SO) : SO := match r with
  | .nxt σ1 => G σ1
  | r => r
def FR.er (r : FR) (rs : List Nat) (σ1 : List D) : ER D := match r with
  | .stuck => .stuck
  | .ret d outs => .ok d (putOuts rs outs σ1)
  | .exc c p outs => .exc c p (putOuts rs outs σ1)
def SO.fin (r : SO) (io : List Nat) : FR := match r with
  | .nxt σ => .ret .non (io.map fun i => σ.getD i .non)
  | .ret d σ => .ret d (io.map fun i => σ.getD i .non)
  | .exc c p σ => .exc c p (io.map fun i => σ.getD i .non)
  | _ => .stuck
section
variable {α β : Type} {σ σ1 : List D} {io rs : List Nat}
theorem bnd_nxt (σ : List D) (G : List D → SO) : (SO.nxt σ).bnd G = G σ := (rfl)
theorem bnd_ret (d : D) (σ : List D) (G : List D → SO) : (SO.ret d σ).bnd G = .ret d σ := (rfl)
theorem bnd_exc (c : Str) (p : D) (σ : List D) (G : List D → SO) : (SO.exc c p σ).bnd G = .exc c p σ := (rfl)
theorem bnd_brk (σ : List D) (G : List D → SO) : (SO.brk σ).bnd G = .brk σ := (rfl)
theorem bnd_cnt (σ : List D) (G : List D → SO) : (SO.cnt σ).bnd G = .cnt σ := (rfl)
theorem er_ret (d : D) (outs : List D) (rs : List Nat) (σ : List D) : (FR.ret d outs).er rs σ = .ok d (putOuts rs outs σ) := (rfl)
theorem er_exc (c : Str) (p : D) (outs : List D) (rs : List Nat) (σ : List D) : (FR.exc c p outs).er rs σ = .exc c p (putOuts rs outs σ) := (rfl)
theorem fin_nxt (σ : List D) (io : List Nat) : (SO.nxt σ).fin io = .ret .non (io.map fun i => σ.getD i .non) := (rfl)
theorem fin_ret (d : D) (σ : List D) (io : List Nat) : (SO.ret d σ).fin io = .ret d (io.map fun i => σ.getD i .non) := (rfl)
theorem fin_exc (c : Str) (p : D) (σ : List D) (io : List Nat) : (SO.exc c p σ).fin io = .exc c p (io.map fun i => σ.getD i .non) := (rfl)
theorem a_fnD {nl : Nat} {io : List Nat} {G : List D → SO} {ds : List D} : fnD nl io G ds = (G (ds ++ List.replicate (nl - ds.length) .non)).fin io := by
  unfold fnD; cases G (ds ++ List.replicate (nl - ds.length) .non) <;> rfl
theorem a_seq {A B : List D → SO} : sSeq A B σ = (A σ).bnd B := by unfold sSeq SO.bnd; cases A σ <;> rfl
theorem a_skip : sSkip σ = .nxt σ := (rfl)
theorem a_retV {i : Nat} : sRetV i σ = .ret (σ.getD i .non) σ := (rfl)
theorem a_retN : sRetN σ = .ret .non σ := (rfl)
theorem a_brk : sBrk σ = .brk σ := (rfl)
theorem a_cnt : sCnt σ = .cnt σ := (rfl)
theorem a_raise {c : Str} : sRaise c σ = .exc c .non σ := (rfl)
theorem a_var {i : Nat} : eVar i σ = .ok (σ.getD i .non) σ := (rfl)
theorem a_c {d : D} : eC d σ = .ok d σ := (rfl)
theorem a_nil : aNil σ = .ok [] σ := (rfl)
theorem o_some {α : Type} (a : α) (σ : List D) : ofO (some a) σ = .ok a σ := (rfl)
def soO (o : Option (List D)) : SO := match o with
  | some c => .nxt c
  | none => .stuck
theorem soO_some {c : List D} : soO (some c) = .nxt c := (rfl)
def ifK (A B : List D → SO) (e0 : ER (Bool)) : SO := match e0 with
  | .stuck => .stuck
  | .ok b σ1 => if b = true then A σ1 else B σ1
  | .exc c p σ1 => .exc c p σ1
theorem ifK_x {A B : List D → SO} {c : Str} {p : D} : ifK A B (.exc c p σ) = .exc c p σ := (rfl)
theorem ifK_t {A B : List D → SO} : ifK A B (.ok true σ) = A σ := (rfl)
theorem ifK_f {A B : List D → SO} : ifK A B (.ok false σ) = B σ := (rfl)
def retK1  (e0 : ER (D)) : SO := match e0 with
  | .stuck => .stuck
  | .ok d σ1 => .ret d σ1
  | .exc c p σ1 => .exc c p σ1
theorem retK1_x  {c : Str} {p : D} : retK1  (.exc c p σ) = .exc c p σ := (rfl)
theorem retK1_o  {d : D} : retK1  (.ok d σ) = .ret d σ := (rfl)
def setK (i : Nat) (e0 : ER (D)) : SO := match e0 with
  | .stuck => .stuck
  | .ok d σ1 => .nxt (σ1.set i d)
  | .exc c p σ1 => .exc c p σ1
theorem setK_x {i : Nat} {c : Str} {p : D} : setK i (.exc c p σ) = .exc c p σ := (rfl)
theorem setK_o {i : Nat} {d : D} : setK i (.ok d σ) = .nxt (σ.set i d) := (rfl)
def dropK1  (e0 : ER (D)) : SO := match e0 with
  | .stuck => .stuck
  | .ok d σ1 => .nxt σ1
  | .exc c p σ1 => .exc c p σ1
theorem dropK1_x  {c : Str} {p : D} : dropK1  (.exc c p σ) = .exc c p σ := (rfl)
theorem dropK1_o  {d : D} : dropK1  (.ok d σ) = .nxt σ := (rfl)
def parK1 (i j : Nat) (e0 : ER (List D)) : SO := match e0 with
  | .stuck => .stuck
  | .ok ds σ1 => soO (match ds with | [x, y] => some ((σ1.set i x).set j y) | _ => none)
  | .exc c p σ1 => .exc c p σ1
theorem parK1_x {i j : Nat} {c : Str} {p : D} : parK1 i j (.exc c p σ) = .exc c p σ := (rfl)
theorem parK1_o {i j : Nat} {x y : D} : parK1 i j (.ok [x, y] σ) = .nxt ((σ.set i x).set j y) := (rfl)
def setix3 (r : Nat) (v : D) (e0 : ER (D)) : SO := match e0 with
  | .stuck => .stuck
  | .ok i σ1 => soO ((dSetIx (σ1.getD r .non) i v).map fun c => σ1.set r c)
  | .exc c p σ1 => .exc c p σ1
theorem setix3_x {r : Nat} {v : D} {c : Str} {p : D} : setix3 r v (.exc c p σ) = .exc c p σ := (rfl)
def setix4 (r : Nat) (σ1 : List D) (o : Option D) : SO := match o with
  | some c => .nxt (σ1.set r c)
  | none => .stuck
theorem setix4_s {r : Nat} {c : D} : setix4 r σ (some c) = .nxt (σ.set r c) := (rfl)
theorem setix3_o {r : Nat} {v i : D} : setix3 r v (.ok i σ) = setix4 r σ (dSetIx (σ.getD r .non) i v) := by
  show soO _ = _
  cases dSetIx (σ.getD r .non) i v <;> rfl
def unpK (T : Tg) (e0 : ER (D)) : SO := match e0 with
  | .stuck => .stuck
  | .ok d σ1 => soO (bindT T d σ1)
  | .exc c p σ1 => .exc c p σ1
theorem unpK_x {T : Tg} {c : Str} {p : D} : unpK T (.exc c p σ) = .exc c p σ := (rfl)
theorem unpK_o {T : Tg} {d : D} : unpK T (.ok d σ) = soO (bindT T d σ) := (rfl)
def forK (T : Tg) (G : List D → SO) (e0 : ER (List D)) : SO := match e0 with
  | .stuck => .stuck
  | .ok ds σ1 => forL T G ds σ1
  | .exc c p σ1 => .exc c p σ1
theorem forK_x {T : Tg} {G : List D → SO} {c : Str} {p : D} : forK T G (.exc c p σ) = .exc c p σ := (rfl)
theorem forK_o {T : Tg} {G : List D → SO} {ds : List D} : forK T G (.ok ds σ) = forL T G ds σ := (rfl)
def bin3 (f : D → D → Option D) (x : D) (e0 : ER (D)) : ER D := match e0 with
  | .stuck => .stuck
  | .ok y σ1 => ofO (f x y) σ1
  | .exc c p σ1 => .exc c p σ1
theorem bin3_x {f : D → D → Option D} {x : D} {c : Str} {p : D} : bin3 f x (.exc c p σ) = .exc c p σ := (rfl)
theorem bin3_o {f : D → D → Option D} {x : D} {y : D} : bin3 f x (.ok y σ) = ofO (f x y) σ := (rfl)
def un2 (f : D → Option D) (e0 : ER (D)) : ER D := match e0 with
  | .stuck => .stuck
  | .ok x σ1 => ofO (f x) σ1
  | .exc c p σ1 => .exc c p σ1
theorem un2_x {f : D → Option D} {c : Str} {p : D} : un2 f (.exc c p σ) = .exc c p σ := (rfl)
theorem un2_o {f : D → Option D} {x : D} : un2 f (.ok x σ) = ofO (f x) σ := (rfl)
def cons3 (d : D) (e0 : ER (List D)) : ER (List D) := match e0 with
  | .stuck => .stuck
  | .ok ds σ1 => .ok (d :: ds) σ1
  | .exc c p σ1 => .exc c p σ1
theorem cons3_x {d : D} {c : Str} {p : D} : cons3 d (.exc c p σ) = .exc c p σ := (rfl)
theorem cons3_o {d : D} {ds : List D} : cons3 d (.ok ds σ) = .ok (d :: ds) σ := (rfl)
def slot2 (r : Nat) (e0 : ER (List D)) : ER (List D) := match e0 with
  | .stuck => .stuck
  | .ok ds σ1 => .ok (σ1.getD r .non :: ds) σ1
  | .exc c p σ1 => .exc c p σ1
theorem slot2_x {r : Nat} {c : Str} {p : D} : slot2 r (.exc c p σ) = .exc c p σ := (rfl)
theorem slot2_o {r : Nat} {ds : List D} : slot2 r (.ok ds σ) = .ok (σ.getD r .non :: ds) σ := (rfl)
def tup2  (e0 : ER (List D)) : ER D := match e0 with
  | .stuck => .stuck
  | .ok ds σ1 => .ok (.tup ds) σ1
  | .exc c p σ1 => .exc c p σ1
theorem tup2_x  {c : Str} {p : D} : tup2  (.exc c p σ) = .exc c p σ := (rfl)
theorem tup2_o  {ds : List D} : tup2  (.ok ds σ) = .ok (.tup ds) σ := (rfl)
def lst2  (e0 : ER (List D)) : ER D := match e0 with
  | .stuck => .stuck
  | .ok ds σ1 => .ok (.lst ds) σ1
  | .exc c p σ1 => .exc c p σ1
theorem lst2_x  {c : Str} {p : D} : lst2  (.exc c p σ) = .exc c p σ := (rfl)
theorem lst2_o  {ds : List D} : lst2  (.ok ds σ) = .ok (.lst ds) σ := (rfl)
def c12 (f : List D → Option D) (e0 : ER (List D)) : ER D := match e0 with
  | .stuck => .stuck
  | .ok ds σ1 => ofO (f ds) σ1
  | .exc c p σ1 => .exc c p σ1
theorem c12_x {f : List D → Option D} {c : Str} {p : D} : c12 f (.exc c p σ) = .exc c p σ := (rfl)
theorem c12_o {f : List D → Option D} {ds : List D} : c12 f (.ok ds σ) = ofO (f ds) σ := (rfl)
def call2 (F : List D → FR) (rs : List Nat) (e0 : ER (List D)) : ER D := match e0 with
  | .stuck => .stuck
  | .ok ds σ1 => (F ds).er rs σ1
  | .exc c p σ1 => .exc c p σ1
theorem call2_x {F : List D → FR} {rs : List Nat} {c : Str} {p : D} : call2 F rs (.exc c p σ) = .exc c p σ := (rfl)
theorem call2_o {F : List D → FR} {rs : List Nat} {ds : List D} : call2 F rs (.ok ds σ) = (F ds).er rs σ := (rfl)
def flat2  (e0 : ER (D)) : ER D := match e0 with
  | .stuck => .stuck
  | .ok d σ1 => if d.flat = true then .ok d σ1 else .stuck
  | .exc c p σ1 => .exc c p σ1
theorem flat2_x  {c : Str} {p : D} : flat2  (.exc c p σ) = .exc c p σ := (rfl)
theorem flat2_i {i : Int} : flat2 (.ok (.int i) σ) = .ok (.int i) σ := (rfl)
theorem flat2_b {i : Bool} : flat2 (.ok (.bl i) σ) = .ok (.bl i) σ := (rfl)
theorem flat2_s {i : Str} : flat2 (.ok (.str i) σ) = .ok (.str i) σ := (rfl)
theorem flat2_n : flat2 (.ok .non σ) = .ok .non σ := (rfl)
def flatL2  (e0 : ER (D)) : ER D := match e0 with
  | .stuck => .stuck
  | .ok d σ1 => match d with | .lst ds => if D.flats ds = true then .ok d σ1 else .stuck | _ => .stuck
  | .exc c p σ1 => .exc c p σ1
theorem flatL2_x  {c : Str} {p : D} : flatL2  (.exc c p σ) = .exc c p σ := (rfl)
theorem flatL2_o {ds : List D} (h : D.flats ds = true) : flatL2 (.ok (.lst ds) σ) = .ok (.lst ds) σ := if_pos h
def tof2  (e0 : ER (D)) : ER Bool := match e0 with
  | .stuck => .stuck
  | .ok d σ1 => match d with | .bl b => .ok b σ1 | _ => .stuck
  | .exc c p σ1 => .exc c p σ1
theorem tof2_x  {c : Str} {p : D} : tof2  (.exc c p σ) = .exc c p σ := (rfl)
theorem tof2_o {b : Bool} : tof2 (.ok (.bl b) σ) = .ok b σ := (rfl)
def tru2  (e0 : ER (D)) : ER Bool := match e0 with
  | .stuck => .stuck
  | .ok d σ1 => ofO d.truth σ1
  | .exc c p σ1 => .exc c p σ1
theorem tru2_x  {c : Str} {p : D} : tru2  (.exc c p σ) = .exc c p σ := (rfl)
theorem tru2_o  {d : D} : tru2  (.ok d σ) = ofO d.truth σ := (rfl)
def tnot2  (e0 : ER (Bool)) : ER Bool := match e0 with
  | .stuck => .stuck
  | .ok b σ1 => .ok (!b) σ1
  | .exc c p σ1 => .exc c p σ1
theorem tnot2_x  {c : Str} {p : D} : tnot2  (.exc c p σ) = .exc c p σ := (rfl)
theorem tnot2_o  {b : Bool} : tnot2  (.ok b σ) = .ok (!b) σ := (rfl)
def tand2 (h : List D → ER Bool) (e0 : ER (Bool)) : ER Bool := match e0 with
  | .stuck => .stuck
  | .ok b σ1 => if b = true then h σ1 else .ok false σ1
  | .exc c p σ1 => .exc c p σ1
theorem tand2_x {h : List D → ER Bool} {c : Str} {p : D} : tand2 h (.exc c p σ) = .exc c p σ := (rfl)
theorem tand2_t {h : List D → ER Bool} : tand2 h (.ok true σ) = h σ := (rfl)
theorem tand2_f {h : List D → ER Bool} : tand2 h (.ok false σ) = .ok false σ := (rfl)
def tor2 (h : List D → ER Bool) (e0 : ER (Bool)) : ER Bool := match e0 with
  | .stuck => .stuck
  | .ok b σ1 => if b = true then .ok true σ1 else h σ1
  | .exc c p σ1 => .exc c p σ1
theorem tor2_x {h : List D → ER Bool} {c : Str} {p : D} : tor2 h (.exc c p σ) = .exc c p σ := (rfl)
theorem tor2_t {h : List D → ER Bool} : tor2 h (.ok true σ) = .ok true σ := (rfl)
theorem tor2_f {h : List D → ER Bool} : tor2 h (.ok false σ) = h σ := (rfl)
def and2 (h : List D → ER D) (e0 : ER (D)) : ER D := match e0 with
  | .stuck => .stuck
  | .ok d σ1 => match d with | .bl true => h σ1 | .bl false => .ok (.bl false) σ1 | _ => .stuck
  | .exc c p σ1 => .exc c p σ1
theorem and2_x {h : List D → ER D} {c : Str} {p : D} : and2 h (.exc c p σ) = .exc c p σ := (rfl)
theorem and2_t {h : List D → ER D} : and2 h (.ok (.bl true) σ) = h σ := (rfl)
theorem and2_f {h : List D → ER D} : and2 h (.ok (.bl false) σ) = .ok (.bl false) σ := (rfl)
def or2 (h : List D → ER D) (e0 : ER (D)) : ER D := match e0 with
  | .stuck => .stuck
  | .ok d σ1 => match d with | .bl true => .ok (.bl true) σ1 | .bl false => h σ1 | _ => .stuck
  | .exc c p σ1 => .exc c p σ1
theorem or2_x {h : List D → ER D} {c : Str} {p : D} : or2 h (.exc c p σ) = .exc c p σ := (rfl)
theorem or2_t {h : List D → ER D} : or2 h (.ok (.bl true) σ) = .ok (.bl true) σ := (rfl)
theorem or2_f {h : List D → ER D} : or2 h (.ok (.bl false) σ) = h σ := (rfl)
def eif2 (g h : List D → ER D) (e0 : ER (Bool)) : ER D := match e0 with
  | .stuck => .stuck
  | .ok b σ1 => if b = true then g σ1 else h σ1
  | .exc c p σ1 => .exc c p σ1
theorem eif2_x {g h : List D → ER D} {c : Str} {p : D} : eif2 g h (.exc c p σ) = .exc c p σ := (rfl)
theorem eif2_t {g h : List D → ER D} : eif2 g h (.ok true σ) = g σ := (rfl)
theorem eif2_f {g h : List D → ER D} : eif2 g h (.ok false σ) = h σ := (rfl)
def isx2 (hit : Str → Option Bool) (e0 : ER (D)) : ER D := match e0 with
  | .stuck => .stuck
  | .ok d σ1 => match d with | .exn c _ => ofO ((hit c).map .bl) σ1 | _ => .stuck
  | .exc c p σ1 => .exc c p σ1
theorem isx2_x {hit : Str → Option Bool} {c : Str} {p : D} : isx2 hit (.exc c p σ) = .exc c p σ := (rfl)
def meth3 (f : D → List D → Option D) (d : D) (e0 : ER (List D)) : ER D := match e0 with
  | .stuck => .stuck
  | .ok ds σ1 => ofO (f d ds) σ1
  | .exc c p σ1 => .exc c p σ1
theorem meth3_x {f : D → List D → Option D} {d : D} {c : Str} {p : D} : meth3 f d (.exc c p σ) = .exc c p σ := (rfl)
theorem meth3_o {f : D → List D → Option D} {d : D} {ds : List D} : meth3 f d (.ok ds σ) = ofO (f d ds) σ := (rfl)
def mut2 (r : Nat) (f : D → List D → Option (D × D)) (e0 : ER (List D)) : ER D := match e0 with
  | .stuck => .stuck
  | .ok ds σ1 => match f (σ1.getD r .non) ds with | some (c, z) => .ok z (σ1.set r c) | none => .stuck
  | .exc c p σ1 => .exc c p σ1
theorem mut2_x {r : Nat} {f : D → List D → Option (D × D)} {c : Str} {p : D} : mut2 r f (.exc c p σ) = .exc c p σ := (rfl)
def mut3 (r : Nat) (σ1 : List D) (o : Option (D × D)) : ER D := match o with
  | some (c, z) => .ok z (σ1.set r c)
  | none => .stuck
theorem mut3_s {r : Nat} {c z : D} : mut3 r σ (some (c, z)) = .ok z (σ.set r c) := (rfl)
theorem mut2_o {r : Nat} {f : D → List D → Option (D × D)} {ds : List D} : mut2 r f (.ok ds σ) = mut3 r σ (f (σ.getD r .non) ds) := by
  show (match f (σ.getD r .non) ds with | some (c, z) => ER.ok z (σ.set r c) | none => .stuck) = _
  cases f (σ.getD r .non) ds <;> rfl
def list2  (e0 : ER (D)) : ER (List D) := match e0 with
  | .stuck => .stuck
  | .ok d σ1 => match d with | .lst ds => .ok ds σ1 | .fzl ds => .ok ds σ1 | _ => .stuck
  | .exc c p σ1 => .exc c p σ1
theorem list2_x  {c : Str} {p : D} : list2  (.exc c p σ) = .exc c p σ := (rfl)
theorem list2_l {ds : List D} : list2 (.ok (.lst ds) σ) = .ok ds σ := (rfl)
theorem list2_f {ds : List D} : list2 (.ok (.fzl ds) σ) = .ok ds σ := (rfl)
def gtup2  (e0 : ER (D)) : ER (List D) := match e0 with
  | .stuck => .stuck
  | .ok d σ1 => match d with | .tup ds => .ok ds σ1 | _ => .stuck
  | .exc c p σ1 => .exc c p σ1
theorem gtup2_x  {c : Str} {p : D} : gtup2  (.exc c p σ) = .exc c p σ := (rfl)
theorem gtup2_o {ds : List D} : gtup2 (.ok (.tup ds) σ) = .ok ds σ := (rfl)
def rng2  (e0 : ER (List D)) : ER (List D) := match e0 with
  | .stuck => .stuck
  | .ok ds σ1 => ofO (gRng ds) σ1
  | .exc c p σ1 => .exc c p σ1
theorem rng2_x  {c : Str} {p : D} : rng2  (.exc c p σ) = .exc c p σ := (rfl)
theorem rng2_o  {ds : List D} : rng2  (.ok ds σ) = ofO (gRng ds) σ := (rfl)
def bin2 (f : D → D → Option D) (g : List D → ER D) (e0 : ER (D)) : ER D := match e0 with
  | .stuck => .stuck
  | .ok x σ1 => bin3 f x (g σ1)
  | .exc c p σ1 => .exc c p σ1
theorem bin2_x {f : D → D → Option D} {g : List D → ER D} {c : Str} {p : D} : bin2 f g (.exc c p σ) = .exc c p σ := (rfl)
theorem bin2_o {f : D → D → Option D} {g : List D → ER D} {x : D} : bin2 f g (.ok x σ) = bin3 f x (g σ) := (rfl)
def cons2 (gs : List D → ER (List D)) (e0 : ER (D)) : ER (List D) := match e0 with
  | .stuck => .stuck
  | .ok d σ1 => cons3 d (gs σ1)
  | .exc c p σ1 => .exc c p σ1
theorem cons2_x {gs : List D → ER (List D)} {c : Str} {p : D} : cons2 gs (.exc c p σ) = .exc c p σ := (rfl)
theorem cons2_o {gs : List D → ER (List D)} {d : D} : cons2 gs (.ok d σ) = cons3 d (gs σ) := (rfl)
def setix2 (r : Nat) (gi : List D → ER D) (e0 : ER (D)) : SO := match e0 with
  | .stuck => .stuck
  | .ok v σ1 => setix3 r v (gi σ1)
  | .exc c p σ1 => .exc c p σ1
theorem setix2_x {r : Nat} {gi : List D → ER D} {c : Str} {p : D} : setix2 r gi (.exc c p σ) = .exc c p σ := (rfl)
theorem setix2_o {r : Nat} {gi : List D → ER D} {v : D} : setix2 r gi (.ok v σ) = setix3 r v (gi σ) := (rfl)
def meth2 (T : String) (f : D → List D → Option D) (gs : List D → ER (List D)) (e0 : ER (D)) : ER D := match e0 with
  | .stuck => .stuck
  | .ok d σ1 => if isTy T d = true then meth3 f d (gs σ1) else .stuck
  | .exc c p σ1 => .exc c p σ1
theorem meth2_x {T : String} {f : D → List D → Option D} {gs : List D → ER (List D)} {c : Str} {p : D} : meth2 T f gs (.exc c p σ) = .exc c p σ := (rfl)
theorem meth2_o {T : String} {f : D → List D → Option D} {gs : List D → ER (List D)} {d : D} (h : isTy T d = true) : meth2 T f gs (.ok d σ) = meth3 f d (gs σ) := if_pos h
theorem meth2_l {f : D → List D → Option D} {gs : List D → ER (List D)} {ds : List D} : meth2 "list" f gs (.ok (.lst ds) σ) = meth3 f (.lst ds) (gs σ) := meth2_o (by rfl)
theorem a_if {t : List D → ER Bool} {A B : List D → SO} : sIf t A B σ = ifK A B (t σ) := by
  unfold sIf ifK
  cases t σ <;> rfl
theorem a_ret {g : List D → ER D} : sRet g σ = retK1 (g σ) := by
  unfold sRet sOf retK1
  cases g σ <;> rfl
theorem a_set {i : Nat} {g : List D → ER D} : sSet i g σ = setK i (g σ) := by
  unfold sSet sOf setK
  cases g σ <;> rfl
theorem a_drop {g : List D → ER D} : sDrop g σ = dropK1 (g σ) := by
  unfold sDrop sOf dropK1
  cases g σ <;> rfl
theorem a_setix {r : Nat} {gv gi : List D → ER D} : sSetIx r gv gi σ = setix2 r gi (gv σ) := by
  unfold sSetIx sOf setix2
  cases gv σ with
  | ok v σ1 =>
    show (match gi σ1 with | .stuck => SO.stuck | .ok d σ1 => _ | .exc c p σ1 => .exc c p σ1) = setix3 r v (gi σ1)
    cases gi σ1 with
    | ok i σ2 =>
      rw [setix3_o]
      dsimp only
      cases dSetIx (σ2.getD r .non) i v <;> rfl
    | _ => rfl
  | _ => rfl
theorem a_unp {T : Tg} {g : List D → ER D} : sUnp T g σ = unpK T (g σ) := by
  unfold sUnp sOf unpK
  cases g σ with
  | ok d σ1 =>
    dsimp only
    cases bindT T d σ1 <;> rfl
  | _ => rfl
theorem a_for {T : Tg} {gi : List D → ER (List D)} {G : List D → SO} : sFor T gi G σ = forK T G (gi σ) := by
  unfold sFor forK
  cases gi σ <;> rfl
theorem a_bin {f : D → D → Option D} {ga gb : List D → ER D} : eBin f ga gb σ = bin2 f gb (ga σ) := by
  unfold eBin bin2
  cases ga σ with
  | ok x σ1 =>
    show (gb σ1).bind _ = bin3 f x (gb σ1)
    unfold bin3
    cases gb σ1 <;> rfl
  | _ => rfl
theorem a_un {f : D → Option D} {ga : List D → ER D} : eUn f ga σ = un2 f (ga σ) := by
  unfold eUn un2 ER.bind
  cases ga σ <;> rfl
theorem a_cons {g : List D → ER D} {gs : List D → ER (List D)} : aCons g gs σ = cons2 gs (g σ) := by
  unfold aCons cons2
  cases g σ with
  | ok x σ1 =>
    show (gs σ1).bind _ = cons3 x (gs σ1)
    unfold cons3
    cases gs σ1 <;> rfl
  | _ => rfl
theorem a_slot {r : Nat} {gs : List D → ER (List D)} : aSlot r gs σ = slot2 r (gs σ) := by
  unfold aSlot slot2 ER.bind
  cases gs σ <;> rfl
theorem a_tup {gs : List D → ER (List D)} : eTup gs σ = tup2 (gs σ) := by
  unfold eTup tup2 ER.bind
  cases gs σ <;> rfl
theorem a_lst {gs : List D → ER (List D)} : eLst gs σ = lst2 (gs σ) := by
  unfold eLst lst2 ER.bind
  cases gs σ <;> rfl
theorem a_flat {g : List D → ER D} : eFlat g σ = flat2 (g σ) := by
  unfold eFlat flat2 ER.bind
  cases g σ <;> rfl
theorem a_flatL {g : List D → ER D} : eFlatL g σ = flatL2 (g σ) := by
  unfold eFlatL flatL2 ER.bind
  cases g σ with
  | ok d σ1 => cases d <;> rfl
  | _ => rfl
theorem a_call1 {f : List D → Option D} {gs : List D → ER (List D)} : eCall1 f gs σ = c12 f (gs σ) := by
  unfold eCall1 c12 ER.bind
  cases gs σ <;> rfl
theorem a_call {F : List D → FR} {gs : List D → ER (List D)} : eCall F rs gs σ = call2 F rs (gs σ) := by
  unfold eCall call2 ER.bind FR.er
  cases gs σ <;> rfl
theorem a_tof {g : List D → ER D} : tOf g σ = tof2 (g σ) := by
  unfold tOf tof2 ER.bind
  cases g σ <;> rfl
theorem a_tru {g : List D → ER D} : tTru g σ = tru2 (g σ) := by
  unfold tTru tru2 ER.bind
  cases g σ <;> rfl
theorem a_tnot {g : List D → ER Bool} : tNotD g σ = tnot2 (g σ) := by
  unfold tNotD tnot2 ER.bind
  cases g σ <;> rfl
theorem a_tand {g h : List D → ER Bool} : tAndD g h σ = tand2 h (g σ) := by
  unfold tAndD tand2 ER.bind
  cases g σ <;> rfl
theorem a_tor {g h : List D → ER Bool} : tOrD g h σ = tor2 h (g σ) := by
  unfold tOrD tor2 ER.bind
  cases g σ <;> rfl
theorem a_and {g h : List D → ER D} : eAnd g h σ = and2 h (g σ) := by
  unfold eAnd and2 ER.bind
  cases g σ <;> rfl
theorem a_or {g h : List D → ER D} : eOr g h σ = or2 h (g σ) := by
  unfold eOr or2 ER.bind
  cases g σ <;> rfl
theorem a_eif {t : List D → ER Bool} {g h : List D → ER D} : eIf t g h σ = eif2 g h (t σ) := by
  unfold eIf eif2 ER.bind
  cases t σ <;> rfl
theorem a_isx {hit : Str → Option Bool} {g : List D → ER D} : eIsX hit g σ = isx2 hit (g σ) := by
  unfold eIsX isx2 ER.bind
  cases g σ <;> rfl
theorem a_meth {T : String} {f : D → List D → Option D} {g : List D → ER D} {gs : List D → ER (List D)} : eMeth T f g gs σ = meth2 T f gs (g σ) := by
  unfold eMeth meth2
  cases g σ with
  | ok x σ1 =>
    show (if isTy T x = true then (gs σ1).bind _ else _) = if isTy T x = true then meth3 f x (gs σ1) else _
    unfold meth3
    cases gs σ1 <;> rfl
  | _ => rfl
theorem a_grange {gs : List D → ER (List D)} : gRange gs σ = rng2 (gs σ) := by
  unfold gRange rng2 ER.bind
  cases gs σ <;> rfl
theorem a_glist {g : List D → ER D} : gList g σ = list2 (g σ) := by
  unfold gList list2 ER.bind
  cases g σ <;> rfl
theorem a_gtup {g : List D → ER D} : gTupl g σ = gtup2 (g σ) := by
  unfold gTupl gtup2 ER.bind
  cases g σ <;> rfl
theorem a_par {i j : Nat} {gs : List D → ER (List D)} : sPar i j gs σ = parK1 i j (gs σ) := by
  unfold sPar parK1
  cases gs σ with
  | ok ds σ1 => cases ds with
    | nil => rfl
    | cons x ds => cases ds with
      | nil => rfl
      | cons y ds => cases ds <;> rfl
  | _ => rfl
def mut1 (b : Bool) (r : Nat) (f : D → List D → Option (D × D)) (x : ER (List D)) : ER D := if b = true then mut2 r f x else .stuck
theorem mut1_t {r : Nat} {f : D → List D → Option (D × D)} {x : ER (List D)} : mut1 true r f x = mut2 r f x := (rfl)
theorem a_mut {T : String} {r : Nat} {f : D → List D → Option (D × D)} {gs : List D → ER (List D)} : eMut T r f gs σ = mut1 (isTy T (σ.getD r .non)) r f (gs σ) := by
  unfold eMut mut1 mut2
  cases gs σ <;> rfl
theorem isTy_ll {ds : List D} : isTy "list" (.lst ds) = true := (rfl)
def SO.hdl (r : SO) (hit : Str → Option Bool) (i : Nat) (Gs : List D → SO) : SO := match r with
  | .exc c p σ1 => (match hit c with
    | none => .stuck
    | some true => (Gs (σ1.set i (.exn c p))).noExc
    | some false => .exc c p σ1)
  | r => r
theorem a_try {G : List D → SO} {hit : Str → Option Bool} {i : Nat} {Gs : List D → SO} : sTry G hit i Gs σ = (G σ).hdl hit i Gs := by unfold sTry SO.hdl; cases G σ <;> rfl
theorem hdl_nxt {hit : Str → Option Bool} {i : Nat} {Gs : List D → SO} : (SO.nxt σ).hdl hit i Gs = .nxt σ := (rfl)
theorem hdl_ret {d : D} {hit : Str → Option Bool} {i : Nat} {Gs : List D → SO} : (SO.ret d σ).hdl hit i Gs = .ret d σ := (rfl)
theorem noExc_ret {d : D} : (SO.ret d σ).noExc = .ret d σ := (rfl)
theorem noExc_nxt : (SO.nxt σ).noExc = .nxt σ := (rfl)
-- operators
theorem add_ii {i j : Int} : dAdd (.int i) (.int j) = some (.int (i + j)) := (rfl)
theorem sub_ii {i j : Int} : dSub (.int i) (.int j) = some (.int (i - j)) := (rfl)
theorem mul_ii {i j : Int} (h : mulOk i j = true) : dMul (.int i) (.int j) = some (.int (i * j)) := if_pos h
theorem lt_ii {i j : Int} : dLt (.int i) (.int j) = some (.bl (decide (i < j))) := (rfl)
theorem le_ii {i j : Int} : dLe (.int i) (.int j) = some (.bl (decide (i ≤ j))) := (rfl)
theorem gt_ii {i j : Int} : dGt (.int i) (.int j) = some (.bl (decide (j < i))) := (rfl)
theorem ge_ii {i j : Int} : dGe (.int i) (.int j) = some (.bl (decide (j ≤ i))) := (rfl)
theorem eqv_int (a b : Int) : (D.int a).eqv (D.int b) = decide (a = b) := by
  simp [D.eqv, D.py, PyData.eqv]
  rcases Decidable.em (a = b) with h | h <;> simp [h]
theorem eq_ii {i j : Int} : dEq (.int i) (.int j) = some (.bl (decide (i = j))) := by unfold dEq; rw [if_pos ⟨rfl, rfl⟩, eqv_int]
theorem ne_ii {i j : Int} : dNe (.int i) (.int j) = some (.bl (decide (i ≠ j))) := by unfold dNe; rw [if_pos ⟨rfl, rfl⟩, eqv_int, decide_not]
theorem abs_i {i : Int} : fAbs [.int i] = some (.int (i.natAbs : Int)) := by
  show some (D.int (if i < 0 then -i else i)) = _
  congr 2
  split <;> omega
theorem int_i {i : Int} : fInt [.int i] = some (.int i) := (rfl)
theorem int_b {b : Bool} : fInt [.bl b] = some (.int (if b then 1 else 0)) := (rfl)
theorem len_t {ds : List D} : fLen [.tup ds] = some (.int ds.length) := (rfl)
theorem len_l {ds : List D} : fLen [.lst ds] = some (.int ds.length) := (rfl)
theorem len_f {ds : List D} : fLen [.fzl ds] = some (.int ds.length) := (rfl)
theorem max_ii {i j : Int} : fMax2 [.int i, .int j] = some (.int (max i j)) := by
  show some (D.int (if j > i then j else i)) = _
  congr 2
  omega
theorem min_ii {i j : Int} : fMin2 [.int i, .int j] = some (.int (min i j)) := by
  show some (D.int (if j < i then j else i)) = _
  congr 2
  omega
theorem not_b {b : Bool} : dNot (.bl b) = some (.bl (!b)) := (rfl)
theorem neg_i {i : Int} : dNeg (.int i) = some (.int (-i)) := (rfl)
theorem ix_t0 {a : D} {ds : List D} : dIx (.tup (a :: ds)) (.int 0) = some a := L2.atI_nat (j := 0) rfl
theorem ix_t1 {a b : D} {ds : List D} : dIx (.tup (a :: b :: ds)) (.int 1) = some b := by
  show L2.atI (a :: b :: ds) ((1 : Nat) : Int) = some b
  exact L2.atI_nat rfl
theorem ix_l0 {a : D} {ds : List D} : dIx (.lst (a :: ds)) (.int 0) = some a := L2.atI_nat (j := 0) rfl
theorem ix_lN {ds : List D} {n : Nat} {d : D} (h : ds[n]? = some d) : dIx (.lst ds) (.int n) = some d := L2.atI_nat h
theorem ix_tN {ds : List D} {n : Nat} {d : D} (h : ds[n]? = some d) : dIx (.tup ds) (.int n) = some d := L2.atI_nat h
theorem ix_fN {ds : List D} {n : Nat} {d : D} (h : ds[n]? = some d) : dIx (.fzl ds) (.int n) = some d := L2.atI_nat h
theorem setix_lN {ds : List D} {n : Nat} {d : D} (h : n < ds.length) : dSetIx (.lst ds) (.int n) d = some (.lst (ds.set n d)) := by
  have : ixN ds.length n = some n := by
    unfold ixN
    rw [if_pos (by omega)]
    simp; omega
  show (ixN ds.length (n : Int)).map _ = _
  rw [this]; rfl
end
theorem whileN_step {t : List D → ER Bool} {G : List D → SO} {σ σ1 σ2 : List D} {k : Nat} {r : SO} (h1 : t σ = .ok true σ1) (h2 : G σ1 = .nxt σ2) (h3 : whileN t G k σ2 = r) : whileN t G (k + 1) σ = r := by
  rw [whileN, h1]
  dsimp only
  rw [if_pos rfl, h2]
  exact h3
theorem whileN_end {t : List D → ER Bool} {G : List D → SO} {σ σ1 : List D} {k : Nat} (h1 : t σ = .ok false σ1) : whileN t G (k + 1) σ = .nxt σ1 := by
  rw [whileN, h1]
  rfl
theorem sWhile_of {t : List D → ER Bool} {G : List D → SO} {σ σ1 : List D} {k : Nat} (h : whileN t G k σ = .nxt σ1) : sWhile t G σ = .nxt σ1 := by
  rw [sWhile_eq (k := k) (by rw [h]; exact fun z => nomatch z), h]
/-- a for by an invariant: all turns go through -/
theorem forL_inv {T : Tg} {G : List D → SO} : ∀ (ds : List D) (I : Nat → List D → Prop) (σ : List D), I 0 σ →
    (∀ (i : Nat) d σ, ds[i]? = some d → I i σ → ∃ σ1 σ2, bindT T d σ = some σ1 ∧ (G σ1 = .nxt σ2 ∨ G σ1 = .cnt σ2) ∧ I (i + 1) σ2) → ∃ σ', forL T G ds σ = .nxt σ' ∧ I ds.length σ'
  | [], I, σ, h0, _ => ⟨σ, rfl, h0⟩
  | d :: ds, I, σ, h0, hs => by
    obtain ⟨σ1, σ2, e1, e2, h1⟩ := hs 0 d σ rfl h0
    obtain ⟨σ', e3, h3⟩ := forL_inv ds (fun i => I (i + 1)) σ2 h1 fun i d σ hd hI => hs (i + 1) d σ (by simpa using hd) hI
    refine ⟨σ', ?_, h3⟩
    rw [forL, e1]
    dsimp only
    rcases e2 with e2 | e2 <;> rw [e2] <;> exact e3
theorem rngD_len {lo : Int} {n : Nat} : (rngD lo n).length = n := by simp [rngD]
theorem rngD_at {lo : Int} {n i : Nat} {d : D} (h : (rngD lo n)[i]? = some d) : i < n ∧ d = .int (lo + i) := by
  have hl := (List.getElem?_eq_some_iff.mp h).1
  rw [rngD_len] at hl
  refine ⟨hl, ?_⟩
  unfold rngD at h
  rw [List.getElem?_map, List.getElem?_range hl] at h
  cases h
  rfl
theorem rngL1 {j : Int} (h : j < 2 ^ 62) (h0 : -(2 ^ 62) ≤ j) : gRng [.int j] = some (rngD 0 j.toNat) := if_pos ⟨h0, h⟩
theorem rngL2 {i j : Int} (h0 : -(2 ^ 62) ≤ i) (h : i < 2 ^ 62) (h2 : -(2 ^ 62) ≤ j) (h3 : j < 2 ^ 62) : gRng [.int i, .int j] = some (rngD i (j - i).toNat) := if_pos ⟨h0, h, h2, h3⟩
theorem mulOk_l {i j : Int} (h : -(2 ^ 64) < i) (h2 : i < 2 ^ 64) : mulOk i j = true := by
  unfold mulOk
  rw [decide_eq_true (⟨h, h2⟩ : -(2 ^ 64) < i ∧ i < 2 ^ 64)]
  rfl
theorem mulOk_r {i j : Int} (h : -(2 ^ 64) < j) (h2 : j < 2 ^ 64) : mulOk i j = true := by
  unfold mulOk
  rw [decide_eq_true (⟨h, h2⟩ : -(2 ^ 64) < j ∧ j < 2 ^ 64), Bool.or_true]
  rfl
end Ow


namespace Ow
open PySem PySem.Spec PySem.SeqAt PyProof.Rows L2
/-- a fraction, as the program has it -/
def enc (r : Rat) : D := .tup [.int r.num, .int r.den]
theorem gcd_pos {a b : Int} (hb : b ≠ 0) : 0 < Int.gcd a b := Nat.pos_of_ne_zero fun h => hb (Int.gcd_eq_zero_iff.mp h).2
theorem fdiv_gcd {a g : Int} (hg : 0 < g) : a.fdiv g = a / g := Int.fdiv_eq_ediv_of_nonneg _ (Int.le_of_lt hg)
theorem divOk_lt {g : Int} (h0 : g ≠ 0) (h : g.natAbs < 2 ^ 9000) : divOk g = true := by
  unfold divOk
  rw [Bool.and_eq_true]
  refine ⟨decide_eq_true h0, decide_eq_true ?_⟩
  exact (Nat.log2_lt (by omega)).mpr h
theorem gcd_le {a b : Int} (hb : b ≠ 0) : ((Int.gcd a b : Nat) : Int).natAbs ≤ b.natAbs := by
  have : Int.gcd a b ≤ b.natAbs := Nat.gcd_le_right _ (by omega)
  omega
theorem num_den (a b : Int) (hb : 0 < b) : (Rat.divInt a b).num = a / (Int.gcd a b : Nat) ∧ ((Rat.divInt a b).den : Int) = b / (Int.gcd a b : Nat) := by
  obtain ⟨n, rfl⟩ : ∃ n : Nat, b = n := ⟨b.toNat, by omega⟩
  have hn : n ≠ 0 := by omega
  have e : Rat.divInt a n = mkRat a n := rfl
  rw [e, mkRat, dif_neg hn, Rat.normalize_eq]
  constructor
  · rfl
  · show ((n / a.natAbs.gcd n : Nat) : Int) = _
    rw [Int.natCast_ediv]
    rfl
/-- bits above and below -/
def sz (n : Nat) (r : Rat) : Prop := r.num.natAbs < 2 ^ n ∧ r.den < 2 ^ n
theorem sz.mono {n m : Nat} {r : Rat} (h : sz n r) (hm : n ≤ m) : sz m r := ⟨Nat.lt_of_lt_of_le h.1 (Nat.pow_le_pow_right (by omega) hm), Nat.lt_of_lt_of_le h.2 (Nat.pow_le_pow_right (by omega) hm)⟩
theorem pow_mul_lt {a b n m : Nat} (ha : a < 2 ^ n) (hb : b < 2 ^ m) : a * b < 2 ^ (n + m) := by
  rw [Nat.pow_add]
  exact Nat.mul_lt_mul'' ha hb
theorem den_le' (a b : Int) (hb : 0 < b) : (Rat.divInt a b).den ≤ b.natAbs ∧ (Rat.divInt a b).num.natAbs ≤ a.natAbs := by
  obtain ⟨h1, h2⟩ := num_den a b hb
  have hg : 0 < Int.gcd a b := gcd_pos (by omega)
  constructor
  · have : b / ((Int.gcd a b : Nat) : Int) ≤ b := Int.ediv_le_self _ (by omega)
    omega
  · rw [h1, Int.natAbs_ediv_of_dvd (Int.gcd_dvd_left ..)]
    exact Nat.div_le_self _ _
theorem sz_divInt {a b : Int} {n : Nat} (hb : 0 < b) (h1 : a.natAbs < 2 ^ n) (h2 : b.natAbs < 2 ^ n) : sz n (Rat.divInt a b) := by
  obtain ⟨q1, q2⟩ := den_le' a b hb
  exact ⟨Nat.lt_of_le_of_lt q2 h1, Nat.lt_of_le_of_lt q1 h2⟩
theorem den_pos' (r : Rat) : (0 : Int) < r.den := by have := r.den_pos; omega
theorem den_ne (r : Rat) : (r.den : Int) ≠ 0 := by have := r.den_pos; omega
theorem add_eq (r q : Rat) : Rat.divInt (r.num * q.den + q.num * r.den) (r.den * q.den) = r + q := by
  rw [← Rat.divInt_add_divInt _ _ (den_ne r) (den_ne q), Rat.num_divInt_den, Rat.num_divInt_den]
theorem sub_eq (r q : Rat) : Rat.divInt (r.num * q.den - q.num * r.den) (r.den * q.den) = r - q := by
  rw [← Rat.divInt_sub_divInt _ _ (den_ne r) (den_ne q), Rat.num_divInt_den, Rat.num_divInt_den]
theorem mul_eq (r q : Rat) : Rat.divInt (r.num * q.num) (r.den * q.den) = r * q := by
  rw [← Rat.divInt_mul_divInt, Rat.num_divInt_den, Rat.num_divInt_den]
theorem div_eq (r q : Rat) (hq : q ≠ 0) : Rat.divInt (r.num * q.den) (r.den * q.num) = r / q := by
  rw [← Rat.divInt_mul_divInt, Rat.num_divInt_den, Rat.div_def, Rat.inv_def]
theorem cross_lt {r q : Rat} {a b : Nat} (hr : sz a r) (hq : sz b q) : (r.num * q.den).natAbs < 2 ^ (a + b) ∧ (r.num * q.num).natAbs < 2 ^ (a + b) ∧ ((r.den : Int) * q.den).natAbs < 2 ^ (a + b) ∧ ((r.den : Int) * q.num).natAbs < 2 ^ (a + b) := by
  refine ⟨?_, ?_, ?_, ?_⟩ <;> rw [Int.natAbs_mul]
  · exact pow_mul_lt hr.1 (by rw [Int.natAbs_natCast]; exact hq.2)
  · exact pow_mul_lt hr.1 hq.1
  · exact pow_mul_lt (by rw [Int.natAbs_natCast]; exact hr.2) (by rw [Int.natAbs_natCast]; exact hq.2)
  · exact pow_mul_lt (by rw [Int.natAbs_natCast]; exact hr.2) hq.1
theorem natAbs_sub_lt {x y : Int} {n : Nat} (hx : x.natAbs < 2 ^ n) (hy : y.natAbs < 2 ^ n) : (x - y).natAbs < 2 ^ (n + 1) := by
  have := Int.natAbs_sub_le x y
  rw [Nat.pow_succ]; omega
theorem sz_sub {r q : Rat} {a b : Nat} (hr : sz a r) (hq : sz b q) : sz (a + b + 1) (r - q) := by
  rw [← sub_eq]
  obtain ⟨h1, h2, h3, h4⟩ := cross_lt hr hq
  obtain ⟨g1, g2, g3, g4⟩ := cross_lt hq hr
  refine sz_divInt (Int.mul_pos (den_pos' r) (den_pos' q)) (natAbs_sub_lt h1 (by rw [Nat.add_comm a b]; exact g1)) (Nat.lt_of_lt_of_le h3 (Nat.pow_le_pow_right (by omega) (by omega)))
theorem sz_mul {r q : Rat} {a b : Nat} (hr : sz a r) (hq : sz b q) : sz (a + b) (r * q) := by
  rw [← mul_eq]
  obtain ⟨h1, h2, h3, h4⟩ := cross_lt hr hq
  exact sz_divInt (Int.mul_pos (den_pos' r) (den_pos' q)) h2 h3
theorem sz_neg {r : Rat} {a : Nat} (hr : sz a r) : sz a (-r) := ⟨by rw [Rat.neg_num, Int.natAbs_neg]; exact hr.1, by rw [Rat.neg_den]; exact hr.2⟩
theorem num_ne {q : Rat} (h : q ≠ 0) : q.num ≠ 0 := fun e => h (Rat.num_eq_zero.mp e)
theorem inv_nd {q : Rat} (h : q ≠ 0) : (q⁻¹).num.natAbs = q.den ∧ (q⁻¹).den = q.num.natAbs := by
  constructor
  · rw [Rat.num_inv]
    rw [Int.natAbs_mul, Int.natAbs_natCast]
    have : q.num.sign.natAbs = 1 := by
      have := num_ne h
      rcases Int.lt_trichotomy q.num 0 with z | z | z
      · rw [Int.sign_eq_neg_one_of_neg z]; rfl
      · exact absurd z this
      · rw [Int.sign_eq_one_of_pos z]; rfl
    rw [this, Nat.one_mul]
  · rw [Rat.den_inv, if_neg (num_ne h)]
theorem sz_inv {q : Rat} {a : Nat} (hr : sz a q) (h : q ≠ 0) : sz a q⁻¹ := by
  obtain ⟨h1, h2⟩ := inv_nd h
  exact ⟨by rw [h1]; exact hr.2, by rw [h2]; exact hr.1⟩
theorem sz_div {r q : Rat} {a b : Nat} (hr : sz a r) (hq : sz b q) (h : q ≠ 0) : sz (a + b) (r / q) := by
  rw [Rat.div_def]
  exact sz_mul hr (sz_inv hq h)
theorem log2_add_lt {i j n m : Nat} (hi : i < 2 ^ n) (hj : j < 2 ^ m) (h : n + m ≤ 1000000) (h0 : 0 < n) : i.log2 + j.log2 < 1000000 := by
  have h1 : i.log2 < n := by
    by_cases z : i = 0
    · subst z; simpa using h0
    · exact (Nat.log2_lt z).mpr hi
  have h2 : j.log2 ≤ m := by
    by_cases z : j = 0
    · subst z; simp
    · exact Nat.le_of_lt ((Nat.log2_lt z).mpr hj)
  omega
theorem mulOk_b {i j : Int} {n m : Nat} (hi : i.natAbs < 2 ^ n) (hj : j.natAbs < 2 ^ m) (h : n + m ≤ 1000000) : mulOk i j = true := by
  unfold mulOk
  by_cases h0 : 0 < n
  · rw [decide_eq_true (log2_add_lt hi hj h h0), Bool.or_true]
  · have : n = 0 := by omega
    subst this
    have : i = 0 := by omega
    subst this
    rfl
theorem eqv_enc (r q : Rat) : (enc r).eqv (enc q) = decide (r = q) := by
  have : r = q ↔ r.num = q.num ∧ (r.den : Int) = q.den := ⟨fun h => by rw [h]; exact ⟨rfl, rfl⟩, fun h => Rat.ext h.1 (by omega)⟩
  simp [enc, D.eqv, D.py, D.pys, PyData.eqv, PyData.eqvAll, this]
  rfl
theorem dat_enc (r : Rat) : (enc r).dat 64 = true := by simp [enc, D.dat]
theorem eqE (r q : Rat) : dEq (enc r) (enc q) = some (.bl (decide (r = q))) := by
  unfold dEq
  rw [if_pos ⟨dat_enc r, dat_enc q⟩, eqv_enc]
theorem neE (r q : Rat) : dNe (enc r) (enc q) = some (.bl (decide (r ≠ q))) := by
  unfold dNe
  rw [if_pos ⟨dat_enc r, dat_enc q⟩, eqv_enc, decide_not]
theorem ixE0 (r : Rat) : dIx (enc r) (.int 0) = some (.int r.num) := ix_t0
theorem ixE1 (r : Rat) : dIx (enc r) (.int 1) = some (.int r.den) := ix_t1
theorem fl2E (r : Rat) (σ : List D) : flat2 (.ok (enc r) σ) = .ok (enc r) σ := (rfl)
theorem encI (i : Int) : D.tup [.int i, .int 1] = enc (i : Rat) := by
  unfold enc
  rw [Rat.num_intCast, Rat.den_intCast]; rfl
theorem mod_ii {i j : Int} (h : 0 < j) : dMod (.int i) (.int j) = some (.int (i % j)) := by
  unfold dMod
  dsimp only
  rw [if_pos (by omega), Int.fmod_eq_emod_of_nonneg _ (by omega)]
theorem div_ii {i j : Int} (h : 0 < j) (h2 : j.natAbs < 2 ^ 9000) : dDiv (.int i) (.int j) = some (.int (i / j)) := by
  unfold dDiv
  dsimp only
  rw [if_pos (divOk_lt (by omega) h2), Int.fdiv_eq_ediv_of_nonneg _ (by omega)]
theorem emod_lt' (a : Int) {b : Int} (h : 0 < b) : 0 ≤ a % b ∧ a % b < b := ⟨Int.emod_nonneg _ (by omega), Int.emod_lt_of_pos _ h⟩
theorem lt64_9000 {n : Nat} (h : n < 2 ^ 64) : n < 2 ^ 9000 := Nat.lt_of_lt_of_le h (Nat.pow_le_pow_right (by omega) (by omega))
theorem gcd_swap (a b : Nat) : Nat.gcd b (a % b) = Nat.gcd a b := by rw [Nat.gcd_comm a b, Nat.gcd_rec b a, Nat.gcd_comm (a % b) b]
theorem pow_18 : (10 : Int) ^ (18 : Int).toNat = 1000000000000000000 := by decide +kernel
theorem dPow_18 : dPow (.int 10) (.int 18) = some (.int 1000000000000000000) := by
  have h : powOk 10 18 = true := by decide +kernel
  unfold dPow
  dsimp only
  rw [if_pos h, pow_18]
theorem pow_3 {i : Int} (h : i.natAbs < 2 ^ 64) : dPow (.int i) (.int 3) = some (.int (i ^ 3)) := by
  have h : powOk i 3 = true := by
    unfold powOk
    simp
    omega
  unfold dPow
  dsimp only
  rw [if_pos h]
  rfl
/-- a bag: what is left of the cell, the seed, the steps (at most k) -/
def Bag (k : Int) (d : D) : Prop := ∃ B S T : Int, d = .lst [.int B, .int S, .int T] ∧ 0 ≤ B ∧ 0 ≤ S ∧ S < 2 ^ 32 ∧ 0 ≤ T ∧ T ≤ k
theorem Bag.mono {j k : Int} {d : D} (h : Bag j d) (hk : j ≤ k) : Bag k d := by
  obtain ⟨B, S, T, e, h1, h2, h3, h4, h5⟩ := h
  exact ⟨B, S, T, e, h1, h2, h3, h4, by omega⟩
abbrev primesD : List D := [.int 2147483647, .int 2147483629, .int 2147483587, .int 2147483579, .int 2147483563, .int 2147483549, .int 2147483543, .int 2147483497]
theorem prime_at (j : Int) (h0 : 0 ≤ j) (h8 : j < 8) : ∃ p : Int, dIx (.tup primesD) (.int j) = some (.int p) ∧ 0 < p ∧ p < 2 ^ 31 := by
  obtain ⟨k, rfl⟩ : ∃ k : Nat, j = k := ⟨j.toNat, by omega⟩
  have : k < 8 := by omega
  match k, this with
  | 0, _ => exact ⟨_, ix_tN rfl, by decide, by decide⟩
  | 1, _ => exact ⟨_, ix_tN rfl, by decide, by decide⟩
  | 2, _ => exact ⟨_, ix_tN rfl, by decide, by decide⟩
  | 3, _ => exact ⟨_, ix_tN rfl, by decide, by decide⟩
  | 4, _ => exact ⟨_, ix_tN rfl, by decide, by decide⟩
  | 5, _ => exact ⟨_, ix_tN rfl, by decide, by decide⟩
  | 6, _ => exact ⟨_, ix_tN rfl, by decide, by decide⟩
  | 7, _ => exact ⟨_, ix_tN rfl, by decide, by decide⟩
theorem ix3_0 {x y z : D} : dIx (.lst [x, y, z]) (.int 0) = some x := ix_l0
theorem ix3_1 {x y z : D} : dIx (.lst [x, y, z]) (.int 1) = some y := ix_lN (n := 1) rfl
theorem ix3_2 {x y z : D} : dIx (.lst [x, y, z]) (.int 2) = some z := ix_lN (n := 2) rfl
theorem six3_0 {x y z w : D} : dSetIx (.lst [x, y, z]) (.int 0) w = some (.lst [w, y, z]) := setix_lN (n := 0) (by simp)
theorem six3_2 {x y z w : D} : dSetIx (.lst [x, y, z]) (.int 2) w = some (.lst [x, y, w]) := setix_lN (n := 2) (by simp)
/-- what the bag begins with -/
theorem bag_fin (cell : Int) (at_ : Int) (b : Bool) (h0 : 0 ≤ at_) (hat : at_ ≤ 100) : Bag 0 (.lst [.int ((cell.natAbs : Int) * (if b = true then 1 else 0)), .int (cell % 2147483587 + 40009 * at_), .int 0]) := by
  have h1 : 0 ≤ cell % 2147483587 := Int.emod_nonneg _ (by omega)
  have h2 : cell % 2147483587 < 2147483587 := Int.emod_lt_of_pos _ (by omega)
  have h4 : (0 : Int) ≤ (if b = true then 1 else 0) := by cases b <;> simp
  exact ⟨_, _, _, rfl, Int.mul_nonneg (by omega) h4, by omega, by omega, by omega, by omega⟩
theorem cells_rng (k : Int) (ns : List Int) (hn : ns.length ≤ 63) (hk : 0 ≤ k) (hk2 : k ≤ 100) : ∃ q : Nat, q ≤ 100 ∧ gRng [.int (max 1 (min k (List.map D.int ns).length))] = some (rngD 0 q) := by
  rw [List.length_map]
  exact ⟨(max 1 (min k ns.length)).toNat, by omega, rngL1 (by omega) (by omega)⟩
end Ow


namespace Ow
open PySem PySem.Spec PySem.SeqAt PyProof.Rows L2
section
variable {σ : List D} {T : Tg} {vr : List Nat} {gt : List D → ER Bool} {ge : List D → ER D}
theorem a_tyes : tYesD σ = .ok true σ := (rfl)
def lcF (vr : List Nat) (σ1 : List D) (r : ER (List D)) : ER D := match r with
  | .ok acc σ2 => .ok (.lst acc) (restV vr σ1 σ2)
  | _ => .stuck
def lc2 (T : Tg) (vr : List Nat) (gt : List D → ER Bool) (ge : List D → ER D) (r : ER (List D)) : ER D := match r with
  | .ok ds σ1 => if ds.length ≤ sizeLine ∧ vr.all (fun i => (σ1.getD i .non).flat) = true then lcF vr σ1 (lcL T gt ge ds [] σ1) else .stuck
  | .stuck => .stuck
  | .exc c p σ1 => .exc c p σ1
theorem a_lc {gi : List D → ER (List D)} : eLc T vr gi gt ge σ = lc2 T vr gt ge (gi σ) := by
  unfold eLc lc2 lcF
  cases gi σ <;> rfl
theorem lc2_o {ds : List D} (h : ds.length ≤ sizeLine) (h2 : vr.all (fun i => (σ.getD i .non).flat) = true) : lc2 T vr gt ge (.ok ds σ) = lcF vr σ (lcL T gt ge ds [] σ) := if_pos ⟨h, h2⟩
theorem lc2_0 {ds : List D} (h : ds.length ≤ sizeLine) : lc2 T [] gt ge (.ok ds σ) = lcF [] σ (lcL T gt ge ds [] σ) := lc2_o h rfl
theorem lcF_0 {acc σ2 : List D} : lcF [] σ (.ok acc σ2) = .ok (.lst acc) σ2 := (rfl)
theorem lc_small {ds : List D} (h : ds.length ≤ 10000) : ds.length ≤ sizeLine := by rw [sizeLine_eq]; omega
def gf2 (f : List D → Option (List D)) (r : ER (List D)) : ER (List D) := match r with
  | .ok ds σ1 => ofO (f ds) σ1
  | .stuck => .stuck
  | .exc c p σ1 => .exc c p σ1
theorem a_gfun {f : List D → Option (List D)} {gs : List D → ER (List D)} : gFun f gs σ = gf2 f (gs σ) := by
  unfold gFun gf2
  cases gs σ <;> rfl
theorem gf2_o {f : List D → Option (List D)} {ds : List D} : gf2 f (.ok ds σ) = ofO (f ds) σ := (rfl)
theorem zip_ll {a b : List D} : fZip [.lst a, .lst b] = some (zipD a b) := (rfl)
theorem zip_tt {a b : List D} : fZip [.tup a, .tup b] = some (zipD a b) := (rfl)
theorem enum_l {a : List D} : fEnum [.lst a] = some (enumD a) := (rfl)
theorem rev_l {a : List D} : fRev [.lst a] = some a.reverse := (rfl)
theorem all_bls {α : Type} (p : α → Bool) (l : List α) : fAll [.lst (l.map fun d => .bl (p d))] = some (.bl (l.all p)) := by
  have h : (l.map fun d => D.bl (p d)).all isBl = true := by rw [List.all_map]; exact List.all_eq_true.mpr fun _ _ => rfl
  show (if _ then _ else _) = _
  rw [if_pos h, List.all_map]
  rfl
theorem all_true (l : List D) : fAll [.lst (l.map fun _ => .bl true)] = some (.bl true) := by
  rw [all_bls (fun _ => true) l]
  congr 2
  exact List.all_eq_true.mpr fun _ _ => rfl
theorem listOf_l {ds : List D} : fListOf [.lst ds] = some (.lst ds) := (rfl)
theorem listOf_t {ds : List D} : fListOf [.tup ds] = some (.lst ds) := (rfl)
theorem tupOf_l {ds : List D} : fTupOf [.lst ds] = some (.tup ds) := (rfl)
theorem tupOf_t {ds : List D} : fTupOf [.tup ds] = some (.tup ds) := (rfl)
theorem append_l {ds : List D} {x : D} (h : ds.length < sizeLine) : mAppend (.lst ds) [x] = some (.lst (ds ++ [x]), .non) := if_pos h
theorem clear_l {ds : List D} : mClear (.lst ds) [] = some (.lst [], .non) := (rfl)
theorem bl_eq {a b : Bool} : dEq (.bl a) (.bl b) = some (.bl (a == b)) := by cases a <;> cases b <;> rfl
theorem bl_ne {a b : Bool} : dNe (.bl a) (.bl b) = some (.bl (a != b)) := by cases a <;> cases b <;> rfl
-- slices
def sl4 (f : D → Option Int → Option Int → Option D) (d : D) (lo : Option Int) (r : ER (Option Int)) : ER D := match r with
  | .ok hi σ1 => ofO (f d lo hi) σ1
  | .stuck => .stuck
  | .exc c p σ1 => .exc c p σ1
def sl3 (f : D → Option Int → Option Int → Option D) (d : D) (gh : List D → ER (Option Int)) (r : ER (Option Int)) : ER D := match r with
  | .ok lo σ1 => sl4 f d lo (gh σ1)
  | .stuck => .stuck
  | .exc c p σ1 => .exc c p σ1
def sl2 (f : D → Option Int → Option Int → Option D) (go gh : List D → ER (Option Int)) (r : ER D) : ER D := match r with
  | .ok d σ1 => sl3 f d gh (go σ1)
  | .stuck => .stuck
  | .exc c p σ1 => .exc c p σ1
theorem a_sl {f : D → Option Int → Option Int → Option D} {g : List D → ER D} {go gh : List D → ER (Option Int)} : eSl f g go gh σ = sl2 f go gh (g σ) := by
  unfold eSl sl2
  cases g σ with
  | ok d σ1 =>
    show (go σ1).bind _ = sl3 f d gh (go σ1)
    unfold sl3
    cases go σ1 with
    | ok lo σ2 =>
      show (gh σ2).bind _ = sl4 f d lo (gh σ2)
      unfold sl4
      cases gh σ2 <;> rfl
    | _ => rfl
  | _ => rfl
theorem sl2_o {f : D → Option Int → Option Int → Option D} {go gh : List D → ER (Option Int)} {d : D} : sl2 f go gh (.ok d σ) = sl3 f d gh (go σ) := (rfl)
theorem sl3_o {f : D → Option Int → Option Int → Option D} {gh : List D → ER (Option Int)} {d : D} {lo : Option Int} : sl3 f d gh (.ok lo σ) = sl4 f d lo (gh σ) := (rfl)
theorem sl4_o {f : D → Option Int → Option Int → Option D} {d : D} {lo hi : Option Int} : sl4 f d lo (.ok hi σ) = ofO (f d lo hi) σ := (rfl)
def os2 (r : ER D) : ER (Option Int) := match r with
  | .ok (.int i) σ1 => .ok (some i) σ1
  | .ok _ _ => .stuck
  | .stuck => .stuck
  | .exc c p σ1 => .exc c p σ1
theorem a_onone : oNone σ = .ok none σ := (rfl)
theorem a_osome {g : List D → ER D} : oSome g σ = os2 (g σ) := by
  unfold oSome os2
  cases g σ with
  | ok d σ1 => cases d <;> rfl
  | _ => rfl
theorem os2_o {i : Int} : os2 (.ok (.int i) σ) = .ok (some i) σ := (rfl)
theorem slL_l {xs : List D} {lo hi : Option Int} : dSlL (.lst xs) lo hi = some (.lst (cutD xs lo hi)) := (rfl)
theorem slT_t {xs : List D} {lo hi : Option Int} : dSlT (.tup xs) lo hi = some (.tup (cutD xs lo hi)) := (rfl)
theorem rep_1 {x : D} {k : Int} (hx : x.flat = true) (h0 : 0 ≤ k) (h : k ≤ 10000) : dRep (.lst [x]) (.int k) = some (.lst (List.replicate k.toNat x)) := by
  have hz : 1 * k.toNat ≤ sizeLine := by rw [sizeLine_eq]; omega
  have e : (List.replicate k.toNat [x]).flatten = List.replicate k.toNat x := by
    induction k.toNat with
    | zero => rfl
    | succ n ih => rw [List.replicate_succ, List.flatten_cons, ih]; rfl
  show (if _ then _ else _) = _
  rw [if_pos ⟨by simp [D.flats, hx], by omega, by omega, hz⟩, e]
end
/-- data without dicts, of bounded depth and breadth -/
def plain : Nat → D → Prop
  | _, .non => True
  | _, .bl _ => True
  | _, .int _ => True
  | _, .str x => PyData.strOk x = true
  | n + 1, .tup ds => ds.length ≤ 10000 ∧ ∀ d ∈ ds, plain n d
  | n + 1, .lst ds => ds.length ≤ 10000 ∧ ∀ d ∈ ds, plain n d
  | _, _ => False
theorem plain.dat : ∀ {n : Nat} {d : D}, plain n d → ∀ m, n ≤ m → d.dat m = true
  | _, .non, _, m, _ => by cases m <;> rfl
  | _, .bl _, _, m, _ => by cases m <;> rfl
  | _, .int _, _, m, _ => by cases m <;> rfl
  | n, .str x, h, m, _ => by
    have h : PyData.strOk x = true := by cases n <;> exact h
    cases m <;> exact h
  | 0, .tup ds, h, m, hm => h.elim
  | 0, .lst ds, h, m, hm => h.elim
  | n + 1, .tup ds, h, m, hm => by
    obtain ⟨m, rfl⟩ : ∃ k, m = k + 1 := ⟨m - 1, by omega⟩
    exact List.all_eq_true.mpr fun d hd => plain.dat (h.2 d hd) m (by omega)
  | n + 1, .lst ds, h, m, hm => by
    obtain ⟨m, rfl⟩ : ∃ k, m = k + 1 := ⟨m - 1, by omega⟩
    exact List.all_eq_true.mpr fun d hd => plain.dat (h.2 d hd) m (by omega)
  | n, .dK _, h, _, _ => by cases n <;> exact False.elim h
  | n, .dT _, h, _, _ => by cases n <;> exact False.elim h
  | n, .ins _ _, h, _, _ => by cases n <;> exact False.elim h
  | n, .fzl _, h, _, _ => by cases n <;> exact False.elim h
  | n, .exn _ _, h, _, _ => by cases n <;> exact False.elim h
theorem plain.int {n : Nat} (i : Int) : plain n (.int i) := by cases n <;> trivial
theorem plain.enc (r : Rat) (n : Nat) : plain (n + 1) (enc r) := ⟨by simp, fun d hd => by
  simp only [List.mem_cons, List.not_mem_nil, or_false] at hd
  rcases hd with rfl | rfl <;> exact plain.int _⟩
theorem plain.mono : ∀ {n : Nat} {d : D}, plain n d → ∀ m, n ≤ m → plain m d
  | _, .non, _, m, _ => by cases m <;> trivial
  | _, .bl _, _, m, _ => by cases m <;> trivial
  | _, .int _, _, m, _ => by cases m <;> trivial
  | n, .str x, h, m, _ => by
    have h : PyData.strOk x = true := by cases n <;> exact h
    cases m <;> exact h
  | 0, .tup ds, h, m, hm => h.elim
  | 0, .lst ds, h, m, hm => h.elim
  | n + 1, .tup ds, h, m, hm => by
    obtain ⟨m, rfl⟩ : ∃ k, m = k + 1 := ⟨m - 1, by omega⟩
    exact ⟨h.1, fun d hd => plain.mono (h.2 d hd) m (by omega)⟩
  | n + 1, .lst ds, h, m, hm => by
    obtain ⟨m, rfl⟩ : ∃ k, m = k + 1 := ⟨m - 1, by omega⟩
    exact ⟨h.1, fun d hd => plain.mono (h.2 d hd) m (by omega)⟩
  | n, .dK _, h, _, _ => by cases n <;> exact False.elim h
  | n, .dT _, h, _, _ => by cases n <;> exact False.elim h
  | n, .ins _ _, h, _, _ => by cases n <;> exact False.elim h
  | n, .fzl _, h, _, _ => by cases n <;> exact False.elim h
  | n, .exn _ _, h, _, _ => by cases n <;> exact False.elim h
end Ow


namespace Ow
open PySem PySem.Spec PySem.SeqAt PyProof.Rows L2
section
variable {σ : List D} {T : Tg} {ge : List D → ER D} {α : Type}
theorem lcL_mapG (g h : α → D) (S : List D → Prop) (l : List α) (σ : List D) (h0 : S σ) (hs : ∀ a ∈ l, ∀ σ, S σ → ∃ σ1 σ2, bindT T (g a) σ = some σ1 ∧ ge σ1 = .ok (h a) σ2 ∧ S σ2) : ∃ σ', lcL T tYesD ge (l.map g) [] σ = .ok (l.map h) σ' ∧ S σ' := by
  have key : ∀ (l : List α) (acc σ : List D), S σ → (∀ a ∈ l, ∀ σ, S σ → ∃ σ1 σ2, bindT T (g a) σ = some σ1 ∧ ge σ1 = .ok (h a) σ2 ∧ S σ2) → ∃ σ', lcL T tYesD ge (l.map g) acc σ = .ok (acc ++ l.map h) σ' ∧ S σ' := by
    intro l
    induction l with
    | nil => intro acc σ h _; exact ⟨σ, by rw [List.map_nil, List.map_nil, List.append_nil]; rfl, h⟩
    | cons d ds ih =>
      intro acc σ hσ hs
      obtain ⟨σ1, σ2, e1, e2, h2⟩ := hs d List.mem_cons_self σ hσ
      obtain ⟨σ', e, h'⟩ := ih (acc ++ [h d]) σ2 h2 fun x hx => hs x (List.mem_cons_of_mem _ hx)
      refine ⟨σ', ?_, h'⟩
      rw [List.map_cons, lcL, e1]
      dsimp only
      rw [a_tyes]
      dsimp only
      rw [if_pos rfl, e2]
      dsimp only
      rw [e, List.map_cons, List.append_assoc]
      rfl
  obtain ⟨σ', e, h⟩ := key l [] σ h0 hs
  exact ⟨σ', e, h⟩
theorem rngD_map {lo : Int} {n : Nat} : rngD lo n = (List.range n).map fun (i : Nat) => D.int (lo + (i : Int)) := rfl
theorem rng0 {n : Nat} : rngD 0 n = (List.range n).map fun (i : Nat) => D.int (i : Int) := by
  unfold rngD
  congr 1
  funext i
  rw [Int.zero_add]
def encS (xs : List Rat) : D := .lst (xs.map enc)
def szS (n : Nat) (xs : List Rat) : Prop := ∀ x ∈ xs, sz n x
theorem ixS {xs : List Rat} {n : Nat} (h : n < xs.length) : dIx (encS xs) (.int n) = some (enc (xs.getD n 0)) := by
  refine ix_lN ?_
  rw [List.getElem?_map, List.getElem?_eq_getElem h, List.getD_eq_getElem?_getD, List.getElem?_eq_getElem h]
  rfl
theorem szS.get {n : Nat} {xs : List Rat} (h : szS n xs) (hn : 0 < n) (i : Nat) : sz n (xs.getD i 0) := by
  rw [List.getD_eq_getElem?_getD]
  cases e : xs[i]? with
  | none => exact ⟨Nat.pow_pos (by omega), Nat.one_lt_two_pow (by omega)⟩
  | some x => exact h x (List.mem_of_getElem? e)
theorem plain.encS (xs : List Rat) (h : xs.length ≤ 10000) (n : Nat) : plain (n + 2) (encS xs) := ⟨by rw [List.length_map]; exact h, fun d hd => by
  obtain ⟨x, _, rfl⟩ := List.mem_map.mp hd
  exact plain.enc x n⟩
theorem plain.eqv {n : Nat} {d : D} (h : plain n d) (hn : n ≤ 64) : d.eqv d = true := PySem.SeqAt.eqv_refl _ (D.dat_lay 64 d (h.dat 64 hn)).1
theorem flatsS (xs : List Rat) : D.flats (xs.map enc) = true := by
  induction xs with
  | nil => rfl
  | cons x xs ih =>
    rw [List.map_cons]
    simp only [D.flats, ih, Bool.and_true]
    rfl
theorem listS (xs : List Rat) : fListOf [encS xs] = some (encS xs) := (rfl)
theorem flatL2S (xs : List Rat) (σ : List D) : flatL2 (.ok (encS xs) σ) = .ok (encS xs) σ := flatL2_o (flatsS xs)
theorem isTy_S (xs : List Rat) : isTy "list" (encS xs) = true := (rfl)
/-- term n of a product, as it grows -/
def pT (xs ys : List Rat) (n : Nat) : Nat → Rat
  | 0 => 0
  | j + 1 => pT xs ys n j + xs.getD j 0 * ys.getD (n - j) 0
theorem sz_0 : sz 1 0 := ⟨by decide, by decide⟩
/-- a loop through a range -/
theorem forL_rng {T : Tg} {G : List D → SO} (n : Nat) (I : Nat → List D → Prop) (σ : List D) (h0 : I 0 σ) (hs : ∀ (i : Nat) σ, i < n → I i σ → ∃ σ1 σ2, bindT T (.int i) σ = some σ1 ∧ G σ1 = .nxt σ2 ∧ I (i + 1) σ2) : ∃ σ', forL T G (rngD 0 n) σ = .nxt σ' ∧ I n σ' := by
  obtain ⟨σ', e, h⟩ := forL_inv (rngD 0 n) I σ h0 fun i d σ hd hI => by
    obtain ⟨hi, rfl⟩ := rngD_at hd
    rw [Int.zero_add]
    obtain ⟨σ1, σ2, e1, e2, h2⟩ := hs i σ hi hI
    exact ⟨σ1, σ2, e1, .inl e2, h2⟩
  rw [rngD_len] at h
  exact ⟨σ', e, h⟩
theorem rngN (n : Nat) (h : n < 2 ^ 40) : gRng [.int (n : Int)] = some (rngD 0 n) := by
  rw [rngL1 (by omega) (by omega)]
  rfl
end
end Ow


namespace Ow
open PySem PySem.Spec PySem.SeqAt PyProof.Rows L2
def sumF (f : Nat → Rat) : Nat → Rat
  | 0 => 0
  | n + 1 => sumF f n + f n
theorem sumF_congr {f g : Nat → Rat} : ∀ {n : Nat}, (∀ i, i < n → f i = g i) → sumF f n = sumF g n
  | 0, _ => rfl
  | n + 1, h => by
    show sumF f n + f n = sumF g n + g n
    rw [sumF_congr fun i hi => h i (by omega), h n (by omega)]
theorem sumF_add (f g : Nat → Rat) : ∀ n, sumF (fun i => f i + g i) n = sumF f n + sumF g n
  | 0 => by simp [sumF]; grind
  | n + 1 => by
    show sumF _ n + (f n + g n) = (sumF f n + f n) + (sumF g n + g n)
    rw [sumF_add f g n]; grind
theorem sumF_mul (c : Rat) (f : Nat → Rat) : ∀ n, sumF (fun i => c * f i) n = c * sumF f n
  | 0 => by simp [sumF]
  | n + 1 => by
    show sumF _ n + c * f n = c * (sumF f n + f n)
    rw [sumF_mul c f n]; grind
theorem sumF_zero : ∀ n, sumF (fun _ => 0) n = 0
  | 0 => rfl
  | n + 1 => by
    show sumF _ n + 0 = 0
    rw [sumF_zero n]; grind
theorem sumF_first (f : Nat → Rat) : ∀ n, sumF f (n + 1) = f 0 + sumF (fun i => f (i + 1)) n
  | 0 => by show (0 : Rat) + f 0 = f 0 + 0; grind
  | n + 1 => by
    show sumF f (n + 1) + f (n + 1) = f 0 + (sumF (fun i => f (i + 1)) n + f (n + 1))
    rw [sumF_first f n]; grind
/-- exchange -/
theorem sumF_swap (f : Nat → Nat → Rat) (m : Nat) : ∀ n, sumF (fun i => sumF (fun j => f i j) m) n = sumF (fun j => sumF (fun i => f i j) n) m
  | 0 => by
    show (0 : Rat) = _
    rw [show (fun j => sumF (fun i => f i j) 0) = fun _ => (0 : Rat) from rfl, sumF_zero]
  | n + 1 => by
    show sumF _ n + sumF (fun j => f n j) m = _
    rw [sumF_swap f m n, ← sumF_add]
    rfl
theorem pT_sum (xs ys : List Rat) (n : Nat) : ∀ j, pT xs ys n j = sumF (fun i => xs.getD i 0 * ys.getD (n - i) 0) j
  | 0 => rfl
  | j + 1 => by
    show pT xs ys n j + _ = sumF _ j + _
    rw [pT_sum xs ys n j]
theorem cast_ne {k : Nat} (hk : k ≠ 0) : ((k : Int) : Rat) ≠ 0 := fun h => hk (by
  have : (k : Int) = 0 := Rat.intCast_inj.mp (by rw [h]; rfl)
  omega)
theorem sz_nat {k n : Nat} (h : k < 2 ^ n) (hn : 0 < n) : sz n ((k : Int) : Rat) := ⟨by rw [Rat.num_intCast]; omega, by rw [Rat.den_intCast]; exact Nat.one_lt_two_pow (by omega)⟩
end Ow


namespace Ow
open PySem PySem.Spec PySem.SeqAt PyProof.Rows L2
/-- a whole number of at most M over d -/
def fb (d M : Nat) (r : Rat) : Prop := 0 < d ∧ ∃ z : Int, r * ((d : Int) : Rat) = (z : Rat) ∧ z.natAbs ≤ M
theorem cast_pos_ne {d : Nat} (h : 0 < d) : ((d : Int) : Rat) ≠ 0 := cast_ne (by omega)
theorem cast_mul (a b : Nat) : (((a * b : Nat) : Int) : Rat) = ((a : Int) : Rat) * ((b : Int) : Rat) := by rw [Int.natCast_mul, Rat.intCast_mul]
theorem fb.sz {d M n : Nat} {r : Rat} (h : fb d M r) (hd : d < 2 ^ n) (hM : M < 2 ^ n) : sz n r := by
  obtain ⟨h0, z, e, hz⟩ := h
  have : r = Rat.divInt z d := by
    rw [Rat.divInt_eq_div, ← e]
    have := cast_pos_ne h0
    grind
  rw [this]
  exact sz_divInt (by omega) (by omega) (by omega)
theorem fb.add {d M N : Nat} {r q : Rat} (h : fb d M r) (h2 : fb d N q) : fb d (M + N) (r + q) := by
  obtain ⟨h0, z, e, hz⟩ := h
  obtain ⟨_, w, e2, hw⟩ := h2
  refine ⟨h0, z + w, by rw [Rat.intCast_add, ← e, ← e2]; grind, ?_⟩
  have := Int.natAbs_add_le z w
  omega
theorem fb.mul {d e M N : Nat} {r q : Rat} (h : fb d M r) (h2 : fb e N q) : fb (d * e) (M * N) (r * q) := by
  obtain ⟨h0, z, e1, hz⟩ := h
  obtain ⟨h1, w, e2, hw⟩ := h2
  refine ⟨Nat.mul_pos h0 h1, z * w, by rw [Rat.intCast_mul, cast_mul, ← e1, ← e2]; grind, ?_⟩
  rw [Int.natAbs_mul]
  exact Nat.mul_le_mul hz hw
theorem fb.lift {d M : Nat} (e : Nat) {r : Rat} (h : fb d M r) (he : 0 < e) : fb (d * e) (M * e) r := by
  obtain ⟨h0, z, e1, hz⟩ := h
  refine ⟨Nat.mul_pos h0 he, z * e, by rw [Rat.intCast_mul, cast_mul, ← e1]; grind, ?_⟩
  rw [Int.natAbs_mul, Int.natAbs_natCast]
  exact Nat.mul_le_mul_right _ hz
theorem fb.mono {d M N : Nat} {r : Rat} (h : fb d M r) (hM : M ≤ N) : fb d N r := by
  obtain ⟨h0, z, e, hz⟩ := h
  exact ⟨h0, z, e, Nat.le_trans hz hM⟩
theorem fb.zero {d : Nat} (h : 0 < d) : fb d 0 0 := ⟨h, 0, by grind, by simp⟩
theorem fb.of_int (z : Int) {M : Nat} (h : z.natAbs ≤ M) : fb 1 M (z : Rat) := ⟨by omega, z, by rw [show (((1 : Nat) : Int) : Rat) = 1 from rfl]; grind, h⟩
theorem fb.divInt {a b d M : Nat} {z : Int} (hb : 0 < b) (hd : b * a = d) (hd0 : 0 < d) (h : z.natAbs * a ≤ M) : fb d M (Rat.divInt z b) := by
  refine ⟨hd0, z * a, ?_, by rw [Int.natAbs_mul, Int.natAbs_natCast]; exact h⟩
  rw [Rat.divInt_eq_div, ← hd, cast_mul, Rat.intCast_mul]
  have := cast_pos_ne hb
  grind
theorem fb.sum {d M : Nat} {f : Nat → Rat} (hd : 0 < d) : ∀ n, (∀ i, i < n → fb d M (f i)) → fb d (n * M) (sumF f n)
  | 0, _ => by rw [Nat.zero_mul]; exact fb.zero hd
  | n + 1, h => by
    rw [Nat.succ_mul]
    exact (fb.sum hd n fun i hi => h i (by omega)).add (h n (by omega))
def fbS (d M : Nat) (xs : List Rat) : Prop := ∀ x ∈ xs, fb d M x
theorem fbS.get {d M : Nat} {xs : List Rat} (h : fbS d M xs) (hd : 0 < d) (i : Nat) : fb d M (xs.getD i 0) := by
  rw [List.getD_eq_getElem?_getD]
  cases e : xs[i]? with
  | none => exact (fb.zero hd).mono (Nat.zero_le _)
  | some x => exact h x (List.mem_of_getElem? e)
theorem fbS.szS {d M n : Nat} {xs : List Rat} (h : fbS d M xs) (hd : d < 2 ^ n) (hM : M < 2 ^ n) : szS n xs := fun x hx => (h x hx).sz hd hM
def cf (xs : List Rat) (i : Nat) : Rat := xs.getD i 0
def cv (f g : Nat → Rat) (n : Nat) : Rat := sumF (fun i => f i * g (n - i)) (n + 1)
def pw (y : Nat → Rat) : Nat → Nat → Rat
  | 0, n => if n = 0 then 1 else 0
  | k + 1, n => cv (pw y k) y n
/-- a list of terms -/
def tl (f : Nat → Rat) (m : Nat) : List Rat := (List.range m).map f
theorem tl_len (f : Nat → Rat) (m : Nat) : (tl f m).length = m := by simp [tl]
theorem tl_get {f : Nat → Rat} {m i : Nat} (h : i < m) : (tl f m).getD i 0 = f i := by
  unfold tl
  rw [List.getD_eq_getElem?_getD, List.getElem?_map, List.getElem?_range h]
  rfl
theorem tl_congr {f g : Nat → Rat} {m : Nat} (h : ∀ i, i < m → f i = g i) : tl f m = tl g m := by
  unfold tl
  refine List.map_congr_left fun i hi => h i (by rwa [List.mem_range] at hi)
end Ow


namespace Ow
open PySem PySem.Spec PySem.SeqAt PyProof.Rows L2
section
variable {σ : List D}
theorem a_dnew : eDNew σ = .ok (.dK []) σ := (rfl)
def setd4 (r : Nat) (σ1 : List D) (o : Option D) : SO := match o with
  | some c => .nxt (σ1.set r c)
  | none => .stuck
def setd3 (r : Nat) (v : D) (e0 : ER D) : SO := match e0 with
  | .stuck => .stuck
  | .ok i σ1 => setd4 r σ1 (dPutD (σ1.getD r .non) i v)
  | .exc c p σ1 => .exc c p σ1
def setd2 (r : Nat) (gi : List D → ER D) (e0 : ER D) : SO := match e0 with
  | .stuck => .stuck
  | .ok v σ1 => setd3 r v (gi σ1)
  | .exc c p σ1 => .exc c p σ1
theorem a_setd {r : Nat} {gv gi : List D → ER D} : sSetD r gv gi σ = setd2 r gi (gv σ) := by
  unfold sSetD sOf setd2
  cases gv σ with
  | ok v σ1 =>
    dsimp only
    unfold setd3
    cases gi σ1 with
    | ok i σ2 => dsimp only; unfold setd4; cases dPutD (σ2.getD r .non) i v <;> rfl
    | _ => rfl
  | _ => rfl
theorem setd2_o {r : Nat} {gi : List D → ER D} {v : D} : setd2 r gi (.ok v σ) = setd3 r v (gi σ) := (rfl)
theorem setd3_o {r : Nat} {i v : D} : setd3 r v (.ok i σ) = setd4 r σ (dPutD (σ.getD r .non) i v) := (rfl)
theorem setd4_s {r : Nat} {c : D} : setd4 r σ (some c) = .nxt (σ.set r c) := (rfl)
def mix5 (r q : Nat) (σ2 ds2 : List D) (o : Option (D × D)) : ER D := match o with
  | some (c, z) => .ok z (σ2.set r (.lst (ds2.set q c)))
  | none => .stuck
def mix4 (r q : Nat) (f : D → List D → Option (D × D)) (x : ER (List D)) : ER D := x.bind fun as σ2 => match σ2.getD r .non with
  | .lst ds2 => mix5 r q σ2 ds2 (f (ds2.getD q .non) as)
  | _ => .stuck
theorem mix4_l {r q : Nat} {f : D → List D → Option (D × D)} {as ds : List D} (h : σ.getD r .non = .lst ds) : mix4 r q f (.ok as σ) = mix5 r q σ ds (f (ds.getD q .non) as) := by
  unfold mix4 ER.bind
  dsimp only
  rw [h]
theorem a_mutix {T : String} {r j q : Nat} {f : D → List D → Option (D × D)} {gs : List D → ER (List D)} {ds : List D} {gi : List D → ER D} (hi : gi σ = .ok (.int j) σ) (h : σ.getD r .non = .lst ds) (hj : j < ds.length) (ht : isTy T (ds.getD j .non) = true) :
    eMutIx T r f gi gs σ = mix4 r j f (gs σ) := by
  have hq : ixN ds.length j = some j := by
    unfold ixN
    rw [if_pos (by omega)]
    simp; omega
  unfold eMutIx
  rw [hi]
  show (match σ.getD r .non, D.int j with
    | .lst ds, .int j => (match ixN ds.length j with
      | some q => if isTy T (ds.getD q .non) = true then (gs σ).bind fun as σ2 => (match σ2.getD r .non with
        | .lst ds2 => (match f (ds2.getD q .non) as with
          | some (c, z) => .ok z (σ2.set r (.lst (ds2.set q c)))
          | none => .stuck)
        | _ => .stuck) else .stuck
      | none => .stuck)
    | _, _ => .stuck) = _
  rw [h]
  dsimp only
  rw [hq]
  dsimp only
  rw [if_pos ht]
  unfold mix4 mix5
  rfl
theorem mutix_of {T : String} {r : Nat} {f : D → List D → Option (D × D)} {gs : List D → ER (List D)} {gi : List D → ER D} (ds : List D) (j : Nat) {as : List D} {c z : D} (hi : gi σ = .ok (.int j) σ) (h : σ.getD r .non = .lst ds) (hj : j < ds.length) (ht : isTy T (ds.getD j .non) = true) (hg : gs σ = .ok as σ) (hf : f (ds.getD j .non) as = some (c, z)) :
    eMutIx T r f gi gs σ = .ok z (σ.set r (.lst (ds.set j c))) := by
  rw [a_mutix (q := j) hi h hj ht, hg, mix4_l h, hf]
  rfl
def unpl2 (is : List Nat) (e0 : ER D) : SO := match e0 with
  | .stuck => .stuck
  | .ok (.lst ds) σ1 => soO (setMany is ds σ1)
  | .ok _ _ => .stuck
  | .exc c p σ1 => .exc c p σ1
theorem a_unpl {is : List Nat} {g : List D → ER D} : sUnpL is g σ = unpl2 is (g σ) := by
  unfold sUnpL sOf unpl2
  cases g σ with
  | ok d σ1 => cases d <;> first | rfl | (dsimp only; unfold soO; cases setMany is _ σ1 <;> rfl)
  | _ => rfl
theorem unpl2_l {is : List Nat} {ds : List D} : unpl2 is (.ok (.lst ds) σ) = soO (setMany is ds σ) := (rfl)
theorem setMany_c {i : Nat} {is : List Nat} {d : D} {ds : List D} : setMany (i :: is) (d :: ds) σ = setMany is ds (σ.set i d) := (rfl)
theorem setMany_n : setMany [] [] σ = some σ := (rfl)
def chn4 (f' : D → D → Option D) (y : D) (gc : List D → ER D) (σ : List D) (o : Option D) : ER D := match o with
  | some (.bl true) => bin3 f' y (gc σ)
  | some (.bl false) => .ok (.bl false) σ
  | _ => .stuck
def chn3 (f f' : D → D → Option D) (x : D) (gc : List D → ER D) (e0 : ER D) : ER D := match e0 with
  | .stuck => .stuck
  | .ok y σ1 => chn4 f' y gc σ1 (f x y)
  | .exc c p σ1 => .exc c p σ1
def chn2 (f f' : D → D → Option D) (gb gc : List D → ER D) (e0 : ER D) : ER D := match e0 with
  | .stuck => .stuck
  | .ok x σ1 => chn3 f f' x gc (gb σ1)
  | .exc c p σ1 => .exc c p σ1
theorem a_chain {f f' : D → D → Option D} {ga gb gc : List D → ER D} : eChain f f' ga gb gc σ = chn2 f f' gb gc (ga σ) := by
  unfold eChain chn2 ER.bind
  cases ga σ with
  | ok x σ1 =>
    dsimp only
    unfold chn3
    cases gb σ1 with
    | ok y σ2 =>
      dsimp only
      unfold chn4
      generalize f x y = o
      cases o with
      | none => rfl
      | some d =>
        cases d with
        | bl b =>
          cases b with
          | true =>
            dsimp only
            unfold bin3
            cases gc σ2 <;> rfl
          | false => rfl
        | _ => rfl
    | _ => rfl
  | _ => rfl
theorem chn2_o {f f' : D → D → Option D} {x : D} {gb gc : List D → ER D} : chn2 f f' gb gc (.ok x σ) = chn3 f f' x gc (gb σ) := (rfl)
theorem chn3_o {f f' : D → D → Option D} {x y : D} {gc : List D → ER D} : chn3 f f' x gc (.ok y σ) = chn4 f' y gc σ (f x y) := (rfl)
theorem chn4_t {f' : D → D → Option D} {y : D} {gc : List D → ER D} : chn4 f' y gc σ (some (.bl true)) = bin3 f' y (gc σ) := (rfl)
theorem chn4_f {f' : D → D → Option D} {y : D} {gc : List D → ER D} : chn4 f' y gc σ (some (.bl false)) = .ok (.bl false) σ := (rfl)
end
theorem eqv_str (a b : Str) : (D.str a).eqv (.str b) = decide (a = b) := by
  simp [D.eqv, D.py, PyData.eqv]
  rfl
theorem eq_ss {a b : Str} (ha : PyData.strOk a = true) (hb : PyData.strOk b = true) : dEq (.str a) (.str b) = some (.bl (decide (a = b))) := by
  unfold dEq
  rw [if_pos ⟨ha, hb⟩, eqv_str]
def nats (l : List Nat) : D := .lst (l.map fun (i : Nat) => D.int (i : Int))
theorem plain.nats (l : List Nat) (h : l.length ≤ 10000) (n : Nat) : plain (n + 1) (nats l) := ⟨by rw [List.length_map]; exact h, fun d hd => by
  obtain ⟨x, _, rfl⟩ := List.mem_map.mp hd
  exact plain.int _⟩
theorem dat_ints (l : List Nat) : (nats l).dat 64 = true := List.all_eq_true.mpr fun d hd => by
  obtain ⟨x, _, rfl⟩ := List.mem_map.mp hd
  rfl
theorem nats_ne (l : List Nat) : dNe (nats l) (.lst []) = some (.bl (!l.isEmpty)) := by
  unfold dNe
  rw [if_pos ⟨dat_ints l, rfl⟩]
  cases l with
  | nil => rfl
  | cons a l => simp [nats, D.eqv, D.py, D.pys, PyData.eqv, PyData.eqvAll]
/-- the shafts that stand, as a dict -/
def stD (l : List Nat) : D := .dK (l.map fun (i : Nat) => ((Sum.inl (i : Int) : Key), D.bl true))
theorem find_st (l : List Nat) (x : Nat) : (dFind (l.map fun (i : Nat) => ((Sum.inl (i : Int) : Key), D.bl true)) (.inl (x : Int))).isSome = decide (x ∈ l) := by
  unfold dFind
  rw [Option.isSome_map]
  rw [Bool.eq_iff_iff, List.find?_isSome, decide_eq_true_eq]
  constructor
  · rintro ⟨kv, h, e⟩
    obtain ⟨y, hy, rfl⟩ := List.mem_map.mp h
    have : (Sum.inl (y : Int) : Key) = .inl (x : Int) := of_decide_eq_true e
    have := Sum.inl.inj this
    have : y = x := by omega
    exact this ▸ hy
  · intro h
    exact ⟨_, List.mem_map.mpr ⟨x, h, rfl⟩, decide_eq_true rfl⟩
theorem st_in (l : List Nat) (x : Nat) : dInD (.int x) (stD l) = some (.bl (decide (x ∈ l))) := by
  show some (D.bl _) = _
  rw [find_st]
theorem st_notin (l : List Nat) (x : Nat) : dNotInD (.int x) (stD l) = some (.bl (!decide (x ∈ l))) := by
  show some (D.bl (!_)) = _
  rw [find_st]
theorem st_put (l : List Nat) (x : Nat) (h : x ∉ l) (hl : l.length < 10000) : dPutD (stD l) (.int x) (.bl true) = some (stD (l ++ [x])) := by
  have h1 : (l.map fun (i : Nat) => ((Sum.inl (i : Int) : Key), D.bl true)).length < sizeLine := by rw [List.length_map, sizeLine_eq]; omega
  have h2 : ((l.map fun (i : Nat) => ((Sum.inl (i : Int) : Key), D.bl true)).any fun kv => decide (kv.1 = .inl (x : Int))) = false := by
    have := find_st l x
    unfold dFind at this
    rw [Option.isSome_map, decide_eq_false h] at this
    rw [Bool.eq_false_iff]
    intro e
    rw [List.any_eq_true] at e
    rw [Bool.eq_false_iff, Ne, List.find?_isSome] at this
    exact this e
  show (if (D.bl true).flat = true ∧ _ then _ else _) = _
  rw [if_pos ⟨rfl, h1⟩]
  show some (D.dK (dPut _ (.inl (x : Int)) _)) = _
  unfold dPut
  rw [if_neg (by rw [h2]; exact Bool.false_ne_true)]
  unfold stD
  rw [List.map_append]
  rfl
theorem st_keys (l : List Nat) : fKeys (stD l) = some (nats l) := by
  show some (D.lst (List.map _ (List.map _ l))) = _
  rw [List.map_map]
  rfl
inductive MRow where
  | source (s : Rat)
  | gear (s r : Rat) (k : Nat)
  | adder (s : Rat) (a b : Nat)
  | disc (s : Rat) (w k : Nat)
def MRow.name : MRow → Str
  | .source _ => "source"
  | .gear _ _ _ => "gear"
  | .adder _ _ _ => "adder"
  | .disc _ _ _ => "disc"
def encR : MRow → D
  | .source s => .tup [.str "source", enc s]
  | .gear s r k => .tup [.str "gear", enc s, enc r, .int k]
  | .adder s a b => .tup [.str "adder", enc s, .int a, .int b]
  | .disc s w k => .tup [.str "disc", enc s, .int w, .int k]
def MRow.drv : MRow → List Nat
  | .source _ => []
  | .gear _ _ k => [k]
  | .adder _ a b => [a, b]
  | .disc _ _ k => [k]
def MRow.nums : MRow → List Rat
  | .source s => [s]
  | .gear s r _ => [s, r]
  | .adder s _ _ => [s]
  | .disc s _ _ => [s]
def MRow.isSrc : MRow → Bool
  | .source _ => true
  | _ => false
def MRow.isDisc : MRow → Bool
  | .disc _ _ _ => true
  | _ => false
/-- the last shaft that a row names -/
def MRow.last : MRow → Nat
  | .source _ => 0
  | .gear _ _ k => k
  | .adder _ _ b => b
  | .disc _ _ k => k
instance : Inhabited MRow := ⟨.source 0⟩
def encM (m : List MRow) : D := .lst (m.map encR)
theorem encR_0 (r : MRow) : dIx (encR r) (.int 0) = some (.str r.name) := by
  cases r <;> exact ix_tN (n := 0) rfl
theorem name_ok (r : MRow) : PyData.strOk r.name = true := by
  have h1 : PyData.strOk "source" = true := by decide +kernel
  have h2 : PyData.strOk "gear" = true := by decide +kernel
  have h3 : PyData.strOk "adder" = true := by decide +kernel
  have h4 : PyData.strOk "disc" = true := by decide +kernel
  cases r
  · exact h1
  · exact h2
  · exact h3
  · exact h4
theorem name_src (r : MRow) : dEq (.str r.name) (.str "source") = some (.bl r.isSrc) := by
  rw [eq_ss (name_ok r) (by decide +kernel)]
  cases r <;> rfl
theorem name_disc (r : MRow) : dEq (.str r.name) (.str "disc") = some (.bl r.isDisc) := by
  rw [eq_ss (name_ok r) (by decide +kernel)]
  cases r <;> rfl
theorem flat_encR (r : MRow) : (encR r).flat = true := by cases r <;> rfl
theorem flats_encM (m : List MRow) : D.flats (m.map encR) = true := by
  induction m with
  | nil => rfl
  | cons x m ih =>
    show ((encR x).flat && D.flats (m.map encR)) = true
    rw [flat_encR, ih]; rfl
theorem lenM (m : List MRow) : fLen [encM m] = some (.int m.length) := by
  unfold encM
  rw [len_l, List.length_map]
theorem ixM {m : List MRow} {i : Nat} (h : i < m.length) : dIx (encM m) (.int i) = some (encR (m.getD i default)) := by
  refine ix_lN ?_
  rw [List.getElem?_map, List.getElem?_eq_getElem h, List.getD_eq_getElem?_getD, List.getElem?_eq_getElem h]
  rfl
theorem flatR (r : MRow) (σ : List D) : flat2 (.ok (encR r) σ) = .ok (encR r) σ := by cases r <;> rfl
theorem listM (m : List MRow) : fListOf [encM m] = some (encM m) := (rfl)
theorem flatLM (m : List MRow) (σ : List D) : flatL2 (.ok (encM m) σ) = .ok (encM m) σ := flatL2_o (flats_encM m)
theorem isTy_M (m : List MRow) : isTy "list" (encM m) = true := (rfl)
theorem isTy_I (l : List Nat) : isTy "list" (nats l) = true := (rfl)
/-- what a told machine is like -/
structure Mach (m : List MRow) : Prop where
  pos : 0 < m.length
  src : ∃ (s : Nat) (t : Rat), m[s]? = some (MRow.source t) ∧ ∀ (i : Nat) (r : MRow), m[i]? = some r → r.isSrc = true → i = s
  rk : ∃ rk : Nat → Nat, ∀ (i : Nat) (r : MRow), m[i]? = some r → ∀ d ∈ r.drv, d < m.length ∧ rk d < rk i
  whl : ∀ (i : Nat) (s : Rat) (w k : Nat), m[i]? = some (MRow.disc s w k) → w < m.length
theorem Mach.at {m : List MRow} (h : Mach m) {i : Nat} (hi : i < m.length) : m[i]? = some (m.getD i default) := by
  rw [List.getD_eq_getElem?_getD, List.getElem?_eq_getElem hi]; rfl
def drvs (m : List MRow) (i : Nat) : List Nat := (m.getD i default).drv
def rdy (m : List MRow) (st : List Nat) : List Nat := (List.range m.length).filter fun i => !decide (i ∈ st) && (drvs m i).all fun d => decide (d ∈ st)
def ordN (m : List MRow) : Nat → List Nat
  | 0 => []
  | k + 1 => ordN m k ++ (rdy m (ordN m k)).take 1
theorem mem_rdy {m : List MRow} {st : List Nat} {i : Nat} : i ∈ rdy m st ↔ i < m.length ∧ i ∉ st ∧ ∀ d ∈ drvs m i, d ∈ st := by
  unfold rdy
  simp [List.mem_filter, List.all_eq_true]
/-- among fewer than all: one is missing -/
theorem missing : ∀ (n : Nat) (l : List Nat), l.Nodup → (∀ i ∈ l, i < n) → (∀ i, i < n → i ∈ l) → l.length = n := by
  intro n l nd h1 h2
  have p : l.Perm (List.range n) := (List.perm_ext_iff_of_nodup nd List.nodup_range).mpr fun a => ⟨fun h => List.mem_range.mpr (h1 a h), fun h => h2 a (List.mem_range.mp h)⟩
  rw [p.length_eq, List.length_range]
theorem rdy_all {m : List MRow} (hm : Mach m) {st : List Nat} (e : rdy m st = []) : ∀ i, i < m.length → i ∈ st := by
  obtain ⟨rk, hrk⟩ := hm.rk
  -- each shaft that does not stand asks for one of lesser rank that does not
  have step : ∀ i, i < m.length → i ∉ st → ∃ d, d < m.length ∧ d ∉ st ∧ rk d < rk i := by
    intro i hi hn
    have : i ∉ rdy m st := by rw [e]; simp
    rw [mem_rdy] at this
    have : ∃ d ∈ drvs m i, d ∉ st := by
      apply Classical.byContradiction
      intro h
      refine this ⟨hi, hn, fun d hd => Classical.byContradiction fun q => h ⟨d, hd, q⟩⟩
    obtain ⟨d, hd, hq⟩ := this
    obtain ⟨a, b⟩ := hrk i _ (hm.at hi) d hd
    exact ⟨d, a, hq, b⟩
  have all : ∀ (k i : Nat), rk i ≤ k → i < m.length → i ∈ st := by
    intro k
    induction k with
    | zero =>
      intro i hk hi
      apply Classical.byContradiction
      intro hn
      obtain ⟨d, _, _, h⟩ := step i hi hn
      omega
    | succ k ih =>
      intro i hk hi
      apply Classical.byContradiction
      intro hn
      obtain ⟨d, h1, h2, h⟩ := step i hi hn
      exact h2 (ih d (by omega) h1)
  exact fun i hi => all _ i (Nat.le_refl _) hi
theorem rdy_some {m : List MRow} (hm : Mach m) {st : List Nat} (nd : st.Nodup) (hs : ∀ i ∈ st, i < m.length) (hl : st.length < m.length) : rdy m st ≠ [] := by
  intro e
  have := missing m.length st nd hs (rdy_all hm e)
  omega
theorem ordN_ok {m : List MRow} (hm : Mach m) : ∀ k, k ≤ m.length → (ordN m k).length = k ∧ (ordN m k).Nodup ∧ ∀ i ∈ ordN m k, i < m.length
  | 0, _ => ⟨rfl, List.nodup_nil, fun i h => by cases h⟩
  | k + 1, h => by
    obtain ⟨h1, h2, h3⟩ := ordN_ok hm k (by omega)
    have ne := rdy_some hm h2 h3 (by omega)
    obtain ⟨a, l, e⟩ := List.exists_cons_of_ne_nil ne
    have ha : a ∈ rdy m (ordN m k) := by rw [e]; simp
    rw [mem_rdy] at ha
    unfold ordN
    rw [e]
    refine ⟨by simp [h1], ?_, fun i hi => ?_⟩
    · rw [List.nodup_append]
      exact ⟨h2, by simp, fun x hx y hy => by
        simp at hy
        subst hy
        exact fun q => ha.2.1 (q ▸ hx)⟩
    · rcases List.mem_append.mp hi with h | h
      · exact h3 i h
      · simp at h
        exact h ▸ ha.1
theorem rdy_end {m : List MRow} (hm : Mach m) : rdy m (ordN m m.length) = [] := by
  obtain ⟨h1, h2, h3⟩ := ordN_ok hm m.length (Nat.le_refl _)
  rw [List.eq_nil_iff_forall_not_mem]
  intro a ha
  rw [mem_rdy] at ha
  have : (ordN m m.length ++ [a]).length = m.length + 1 := by simp [h1]
  have nd : (ordN m m.length ++ [a]).Nodup := by
    rw [List.nodup_append]
    exact ⟨h2, by simp, fun x hx y hy => by
      simp at hy
      subst hy
      exact fun q => ha.2.1 (q ▸ hx)⟩
  have key : ∀ (n : Nat) (l : List Nat), l.Nodup → (∀ i ∈ l, i < n) → l.length ≤ n := by
    intro n
    induction n with
    | zero =>
      intro l _ h
      cases l with
      | nil => exact Nat.le_refl _
      | cons x l => exact absurd (h x (by simp)) (by omega)
    | succ n ih =>
      intro l nd h
      have := ih (l.erase n) (nd.erase n) fun i hi => by
        have h1 := h i (List.mem_of_mem_erase hi)
        have h2 := (nd.mem_erase_iff.mp hi).1
        omega
      have le := List.length_erase_le (a := n) (l := l)
      by_cases hn : n ∈ l
      · rw [List.length_erase_of_mem hn] at this
        omega
      · rw [List.erase_of_not_mem hn] at this
        omega
  have := key m.length _ nd fun i hi => by
    rcases List.mem_append.mp hi with h | h
    · exact h3 i h
    · simp at h
      exact h ▸ ha.1
  omega
def discs (m : List MRow) : List Nat := (List.range m.length).filter fun i => (m.getD i default).isDisc
def evenB (m : List MRow) : Bool := (discs m).all fun i => (m.getD (m.getD i default).last default).isSrc
theorem lcL_filterG {α : Type} {T : Tg} {gt : List D → ER Bool} {ge : List D → ER D} (g h : α → D) (p : α → Bool) (S : List D → Prop) (l : List α) (σ : List D) (h0 : S σ) (hs : ∀ a ∈ l, ∀ σ, S σ → ∃ σ1 σ2, bindT T (g a) σ = some σ1 ∧ gt σ1 = .ok (p a) σ2 ∧ S σ2 ∧ (p a = true → ∃ σ3, ge σ2 = .ok (h a) σ3 ∧ S σ3)) :
    ∃ σ', lcL T gt ge (l.map g) [] σ = .ok ((l.filter p).map h) σ' ∧ S σ' := by
  have key : ∀ (l : List α) (acc σ : List D), S σ → (∀ a ∈ l, ∀ σ, S σ → ∃ σ1 σ2, bindT T (g a) σ = some σ1 ∧ gt σ1 = .ok (p a) σ2 ∧ S σ2 ∧ (p a = true → ∃ σ3, ge σ2 = .ok (h a) σ3 ∧ S σ3)) → ∃ σ', lcL T gt ge (l.map g) acc σ = .ok (acc ++ (l.filter p).map h) σ' ∧ S σ' := by
    intro l
    induction l with
    | nil => intro acc σ h _; exact ⟨σ, by simp [lcL], h⟩
    | cons d ds ih =>
      intro acc σ h2 hs
      obtain ⟨σ1, σ2, e1, e2, h2, hp⟩ := hs d List.mem_cons_self σ h2
      cases z : p d with
      | true =>
        obtain ⟨σ3, e3, h3⟩ := hp z
        obtain ⟨σ', e, h'⟩ := ih (acc ++ [h d]) σ3 h3 fun x hx => hs x (List.mem_cons_of_mem _ hx)
        refine ⟨σ', ?_, h'⟩
        rw [List.map_cons, lcL, e1]
        dsimp only
        rw [e2, z]
        dsimp only
        rw [if_pos rfl, e3]
        dsimp only
        rw [e, List.filter_cons_of_pos z, List.map_cons, List.append_assoc]
        rfl
      | false =>
        obtain ⟨σ', e, h'⟩ := ih acc σ2 h2 fun x hx => hs x (List.mem_cons_of_mem _ hx)
        refine ⟨σ', ?_, h'⟩
        rw [List.map_cons, lcL, e1]
        dsimp only
        rw [e2, z]
        dsimp only
        rw [if_neg (by decide), e, List.filter_cons_of_neg (by rw [z]; decide)]
  obtain ⟨σ', e, h⟩ := key l [] σ h0 hs
  exact ⟨σ', e, h⟩
theorem erase_map (f : Nat → D) : ∀ (l : List Nat) (i : Nat), (l.map f).eraseIdx i = (l.eraseIdx i).map f
  | [], _ => rfl
  | x :: l, 0 => rfl
  | x :: l, i + 1 => by
    show f x :: (l.map f).eraseIdx i = f x :: (l.eraseIdx i).map f
    rw [erase_map f l i]
theorem erase_perm : ∀ (l : List Nat) (i x : Nat), l[i]? = some x → (x :: l.eraseIdx i).Perm l
  | [], i, x, h => by simp at h
  | y :: l, 0, x, h => by
    simp at h
    subst h
    exact .refl _
  | y :: l, i + 1, x, h => by
    have h : l[i]? = some x := by simpa using h
    exact (List.Perm.swap y x _).trans ((erase_perm l i x h).cons y)
theorem popAt_of {ds : List D} {i : Int} {k : Nat} {x : D} (h1 : -(2 ^ 63) ≤ i ∧ i < 2 ^ 63) (hs : seqIndex? i ds.length = some k) (hx : ds[k]? = some x) : mPopAt (.lst ds) [.int i] = some (.lst (ds.eraseIdx k), x) := by
  unfold mPopAt
  dsimp only
  rw [if_pos h1, hs, Option.bind_some, hx, Option.map_some]
theorem popAt_I {l : List Nat} {i x : Nat} (h : l[i]? = some x) (hb : i < 10000) : mPopAt (nats l) [.int i] = some (nats (l.eraseIdx i), .int x) := by
  have hi : i < l.length := (List.getElem?_eq_some_iff.mp h).1
  have hs : seqIndex? (i : Int) (l.map fun (i : Nat) => D.int (i : Int)).length = some i := by
    unfold seqIndex?
    rw [List.length_map]
    have h1 : ¬ ((i : Int) < 0) := by omega
    simp [h1, hi]
  have e := popAt_of (ds := l.map fun (i : Nat) => D.int (i : Int)) (i := i) (k := i) (x := .int x) ⟨by omega, by omega⟩ hs (by rw [List.getElem?_map, h]; rfl)
  rw [erase_map] at e
  exact e
theorem append_I {l : List Nat} (x : Nat) (h : l.length < 10000) : mAppend (nats l) [.int x] = some (nats (l ++ [x]), .non) := by
  unfold nats
  rw [append_l (by rw [List.length_map, sizeLine_eq]; omega), List.map_append]
  rfl
theorem nats_nil : D.lst [] = nats [] := (rfl)
theorem nats_ix {l : List Nat} {i x : Nat} (h : l[i]? = some x) : dIx (nats l) (.int i) = some (.int x) := by
  refine ix_lN ?_
  rw [List.getElem?_map, h]
  rfl
theorem lenI (l : List Nat) : fLen [nats l] = some (.int l.length) := by
  unfold nats
  rw [len_l, List.length_map]
theorem lrng_of {xs : List D} (h : xs.length ≤ 10000) : (if xs.length ≤ 1000000 then some (D.lst xs) else none) = some (.lst xs) := if_pos (Nat.le_trans h (by decide))
theorem lrng (n : Nat) (h : n ≤ 10000) : fLRng [.int (n : Int)] = some (nats (List.range n)) := by
  have e : nats (List.range n) = .lst (rngD 0 n) := by rw [rng0]; rfl
  rw [e]
  unfold fLRng
  rw [rngN n (by omega)]
  exact lrng_of (by rw [rngD_len]; omega)
def MRow.isGear : MRow → Bool
  | .gear _ _ _ => true
  | _ => false
def MRow.st : MRow → Rat
  | .source s => s
  | .gear s _ _ => s
  | .adder s _ _ => s
  | .disc s _ _ => s
/-- the shaft in a row's third place -/
def MRow.mid : MRow → Nat
  | .adder _ a _ => a
  | .disc _ w _ => w
  | _ => 0
theorem name_gear (r : MRow) : dEq (.str r.name) (.str "gear") = some (.bl r.isGear) := by
  rw [eq_ss (name_ok r) (by decide +kernel)]
  cases r <;> rfl
theorem encR_1 (r : MRow) : dIx (encR r) (.int 1) = some (enc r.st) := by
  cases r <;> exact ix_tN (n := 1) rfl
theorem encR_3 (r : MRow) (h : r.isSrc = false) : dIx (encR r) (.int 3) = some (.int r.last) := by
  cases r with
  | source s => cases h
  | _ => exact ix_tN (n := 3) rfl
theorem encR_2 (r : MRow) (h : r.isSrc = false) (h2 : r.isGear = false) : dIx (encR r) (.int 2) = some (.int r.mid) := by
  cases r with
  | source s => cases h
  | gear s q k => cases h2
  | _ => exact ix_tN (n := 2) rfl
theorem encR_2g (s q : Rat) (k : Nat) : dIx (encR (.gear s q k)) (.int 2) = some (enc q) := ix_tN (n := 2) rfl
theorem plain.row (r : MRow) (n : Nat) : plain (n + 2) (encR r) := by
  have ok : PyData.strOk r.name = true := name_ok r
  cases r with
  | source s => exact ⟨by simp, fun d hd => by
      simp only [List.mem_cons, List.not_mem_nil, or_false] at hd
      rcases hd with rfl | rfl
      · exact ok
      · exact plain.enc _ n⟩
  | gear s q k => exact ⟨by simp, fun d hd => by
      simp only [List.mem_cons, List.not_mem_nil, or_false] at hd
      rcases hd with rfl | rfl | rfl | rfl
      · exact ok
      · exact plain.enc _ n
      · exact plain.enc _ n
      · exact plain.int _⟩
  | adder s q k => exact ⟨by simp, fun d hd => by
      simp only [List.mem_cons, List.not_mem_nil, or_false] at hd
      rcases hd with rfl | rfl | rfl | rfl
      · exact ok
      · exact plain.enc _ n
      · exact plain.int _
      · exact plain.int _⟩
  | disc s q k => exact ⟨by simp, fun d hd => by
      simp only [List.mem_cons, List.not_mem_nil, or_false] at hd
      rcases hd with rfl | rfl | rfl | rfl
      · exact ok
      · exact plain.enc _ n
      · exact plain.int _
      · exact plain.int _⟩
theorem plain.encM (m : List MRow) (h : m.length ≤ 10000) (n : Nat) : plain (n + 3) (encM m) := ⟨by rw [List.length_map]; exact h, fun d hd => by
  obtain ⟨x, _, rfl⟩ := List.mem_map.mp hd
  exact plain.row x n⟩
theorem listMr (m : List MRow) (σ : List D) : list2 (.ok (encM m) σ) = .ok (m.map encR) σ := list2_l
/-- just one item is such -/
theorem one_such {α : Type} (p : α → Bool) : ∀ (l : List α) (s : Nat), (∃ x, l[s]? = some x ∧ p x = true) → (∀ (i : Nat) x, l[i]? = some x → p x = true → i = s) → (l.filter p).length = 1
  | [], s, h, _ => by
    obtain ⟨x, h, _⟩ := h
    simp at h
  | y :: l, 0, h, u => by
    obtain ⟨x, hx, hp⟩ := h
    simp at hx
    subst hx
    have : l.filter p = [] := List.filter_eq_nil_iff.mpr fun z hz hpz => by
      obtain ⟨i, hi⟩ := List.getElem?_of_mem hz
      have := u (i + 1) z (by simpa using hi) hpz
      omega
    rw [List.filter_cons_of_pos hp, this]
    rfl
  | y :: l, s + 1, h, u => by
    obtain ⟨x, hx, hp⟩ := h
    have hy : ¬ p y = true := fun hy => by
      have := u 0 y rfl hy
      omega
    rw [List.filter_cons_of_neg hy]
    exact one_such p l s ⟨x, by simpa using hx, hp⟩ fun i z hz hpz => by
      have := u (i + 1) z (by simpa using hz) hpz
      omega
def MRow.behind (n sh : Nat) : MRow → MRow
  | .source s => .gear s 1 sh
  | .gear s q k => .gear s q (k + n)
  | .adder s a b => .adder s (a + n) (b + n)
  | .disc s w k => .disc s (w + n) (k + n)
end Ow


namespace Ow
open PySem PySem.Spec PySem.SeqAt PyProof.Rows L2
/-- one along another, term k times k, the first j parts -/
def af (f g : Nat → Rat) (k j : Nat) : Rat := sumF (fun i => (((k - i : Nat) : Int) : Rat) * (f i * g (k - i))) j
/-- term k of shaft i -/
def trm (m : List MRow) (rk : Nat → Nat) (k i : Nat) : Rat :=
  match m.getD i default with
  | .source s => if k = 0 then s else if k = 1 then 1 else 0
  | .gear s q d => if k = 0 then s else if h : rk d < rk i then q * trm m rk k d else 0
  | .adder s a b => if k = 0 then s else if h : rk a < rk i ∧ rk b < rk i then trm m rk k a + trm m rk k b else 0
  | .disc s w d => if k = 0 then s else if h : rk d < rk i then sumF (fun j => if hj : j < k then (((k - j : Nat) : Int) : Rat) * (trm m rk j w * trm m rk (k - j) d) else 0) k / ((k : Int) : Rat) else 0
termination_by (k, rk i)
decreasing_by
  · exact Prod.Lex.right _ h
  · exact Prod.Lex.right _ h.1
  · exact Prod.Lex.right _ h.2
  · exact Prod.Lex.left _ _ hj
  · by_cases z : j = 0
    · subst z
      exact Prod.Lex.right _ h
    · exact Prod.Lex.left _ _ (by omega)
/-- what a row asks of term k -/
def rowF (r : MRow) (T : Nat → Nat → Rat) (k : Nat) : Rat := match r with
  | .source _ => if k = 1 then 1 else 0
  | .gear _ q d => q * T d k
  | .adder _ a b => T a k + T b k
  | .disc _ w d => af (T w) (T d) k k / ((k : Int) : Rat)
/-- the series of a machine's shafts -/
structure Turn (m : List MRow) (T : Nat → Nat → Rat) : Prop where
  zero : ∀ i, i < m.length → T i 0 = (m.getD i default).st
  step : ∀ i k, i < m.length → 0 < k → T i k = rowF (m.getD i default) T k
theorem turn_ex {m : List MRow} (hm : Mach m) : ∃ T, Turn m T := by
  obtain ⟨rk, hrk⟩ := hm.rk
  refine ⟨fun i k => trm m rk k i, fun i hi => ?_, fun i k hi hk => ?_⟩
  · show trm m rk 0 i = _
    rw [trm]
    cases m.getD i default <;> rfl
  · have hd := fun d hd => (hrk i _ (hm.at hi) d hd).2
    have hk0 : ¬ k = 0 := by omega
    show trm m rk k i = _
    rw [trm]
    revert hd
    cases m.getD i default with
    | source s => intro _; exact if_neg hk0
    | gear s q d =>
      intro hd
      show (if k = 0 then s else if h : rk d < rk i then _ else _) = _
      rw [if_neg hk0, dif_pos (hd d (by simp [MRow.drv]))]
      rfl
    | adder s a b =>
      intro hd
      show (if k = 0 then s else if h : rk a < rk i ∧ rk b < rk i then _ else _) = _
      rw [if_neg hk0, dif_pos ⟨hd a (by simp [MRow.drv]), hd b (by simp [MRow.drv])⟩]
      rfl
    | disc s w d =>
      intro hd
      show (if k = 0 then s else if h : rk d < rk i then _ else _) = _
      rw [if_neg hk0, dif_pos (hd d (by simp [MRow.drv]))]
      show _ = af _ _ k k / _
      unfold af
      congr 1
      exact sumF_congr fun j hj => dif_pos hj
def QQ : Nat := 360360
def GG : Nat := 30720
/-- a row's part of the bottom -/
def fr (m : List MRow) (i : Nat) : Nat := match m.getD i default with
  | .source _ => 1
  | .gear _ q _ => q.den
  | .adder _ _ _ => 1
  | .disc _ w _ => QQ * ((m.getD w default).st).den
def pF (m : List MRow) : List Nat → Nat
  | [] => 1
  | i :: is => fr m i * pF m is
theorem fr_pos (m : List MRow) (i : Nat) : 0 < fr m i := by
  unfold fr
  cases m.getD i default with
  | source s => exact Nat.one_pos
  | gear s q d => exact q.den_pos
  | adder s a b => exact Nat.one_pos
  | disc s w d => exact Nat.mul_pos (by decide) (Rat.den_pos _)
theorem pF_pos (m : List MRow) : ∀ l, 0 < pF m l
  | [] => Nat.one_pos
  | i :: l => Nat.mul_pos (fr_pos m i) (pF_pos m l)
theorem pF_app (m : List MRow) (i : Nat) : ∀ l, pF m (l ++ [i]) = pF m l * fr m i
  | [] => by show fr m i * 1 = 1 * fr m i; omega
  | j :: l => by
    show fr m j * pF m (l ++ [i]) = fr m j * pF m l * fr m i
    rw [pF_app m i l, Nat.mul_assoc]
/-- the bound of term k of a shaft among P -/
def BD (m : List MRow) (F : Nat) (P : List Nat) (k : Nat) (x : Rat) : Prop := fb (pF m P * F ^ (k - 1)) (pF m P * F ^ (k - 1) * GG ^ (P.length + m.length * (k - 1))) x
theorem fb.up {d M e N : Nat} {r : Rat} (h : fb d M r) (he : 0 < e) (hM : M * e ≤ N) {d' : Nat} (hd : d' = d * e) : fb d' N r := by
  subst hd
  exact (h.lift e he).mono hM
theorem BD.more {m : List MRow} {F k : Nat} {P : List Nat} {x : Rat} (h : BD m F P k x) (i : Nat) : BD m F (P ++ [i]) k x := by
  unfold BD at h ⊢
  refine h.up (e := fr m i) (fr_pos m i) ?_ (by rw [pF_app]; grind)
  rw [pF_app, List.length_append, show P.length + [i].length + m.length * (k - 1) = (P.length + m.length * (k - 1)) + 1 by simp; omega, Nat.pow_succ]
  calc pF m P * F ^ (k - 1) * GG ^ (P.length + m.length * (k - 1)) * fr m i = pF m P * fr m i * F ^ (k - 1) * GG ^ (P.length + m.length * (k - 1)) * 1 := by grind
    _ ≤ pF m P * fr m i * F ^ (k - 1) * GG ^ (P.length + m.length * (k - 1)) * GG := Nat.mul_le_mul_left _ (by decide)
    _ = _ := by grind
theorem fb.self (r : Rat) : fb r.den r.num.natAbs r := by
  have := fb.divInt (z := r.num) (b := r.den) (a := 1) (d := r.den) (M := r.num.natAbs) r.den_pos (by omega) r.den_pos (by omega)
  rwa [Rat.num_divInt_den] at this
theorem fb.div {d M k : Nat} {r : Rat} (h : fb d M r) (hk : 0 < k) : fb (d * k) M (r / ((k : Int) : Rat)) := by
  obtain ⟨h1, z, e, hz⟩ := h
  refine ⟨Nat.mul_pos h1 hk, z, ?_, hz⟩
  have hk' := cast_pos_ne hk
  rw [cast_mul, ← e]
  grind
theorem QQ_dvd {k : Nat} (h : 0 < k) (h2 : k ≤ 15) : ∃ c, QQ = k * c ∧ 0 < c := by
  have : k = 1 ∨ k = 2 ∨ k = 3 ∨ k = 4 ∨ k = 5 ∨ k = 6 ∨ k = 7 ∨ k = 8 ∨ k = 9 ∨ k = 10 ∨ k = 11 ∨ k = 12 ∨ k = 13 ∨ k = 14 ∨ k = 15 := by omega
  rcases this with rfl | rfl | rfl | rfl | rfl | rfl | rfl | rfl | rfl | rfl | rfl | rfl | rfl | rfl | rfl
  all_goals first
    | exact ⟨360360, rfl, by decide⟩ | exact ⟨180180, rfl, by decide⟩ | exact ⟨120120, rfl, by decide⟩ | exact ⟨90090, rfl, by decide⟩ | exact ⟨72072, rfl, by decide⟩ | exact ⟨60060, rfl, by decide⟩ | exact ⟨51480, rfl, by decide⟩
    | exact ⟨45045, rfl, by decide⟩ | exact ⟨40040, rfl, by decide⟩ | exact ⟨36036, rfl, by decide⟩ | exact ⟨32760, rfl, by decide⟩ | exact ⟨30030, rfl, by decide⟩ | exact ⟨27720, rfl, by decide⟩ | exact ⟨25740, rfl, by decide⟩ | exact ⟨24024, rfl, by decide⟩
theorem fb.cast {d d' M M' : Nat} {r : Rat} (h : fb d M r) (e : d = d') (e2 : M = M') : fb d' M' r := by
  subst e; subst e2; exact h
/-- one part of a disc's term -/
theorem BD.term {m : List MRow} {T : Nat → Nat → Rat} {F k w d D E den : Nat} {P : List Nat} (hk : 0 < k) (h15 : k ≤ 15) (hst : fb den 2047 (T w 0)) (hdk : fb D (D * E) (T d k)) (hd : ∀ j, 0 < j → j ≤ k → BD m F P j (T d j))
    (hc : ∀ t, 0 < t → t < k → fb (F ^ t) (F ^ t * GG ^ (m.length * t)) (T w t)) (hD : pF m P * F ^ (k - 1) = D) (hE : GG ^ (P.length + m.length * (k - 1)) = E) (hden0 : 0 < den) :
    ∀ t, t < k → fb (D * den) (15 * 2047 * (D * E) * den) ((((k - t : Nat) : Int) : Rat) * (T w t * T d (k - t))) := by
  intro t ht
  have hi15 : fb 1 15 (((k - t : Nat) : Int) : Rat) := fb.of_int _ (by omega)
  by_cases h0 : t = 0
  · subst h0
    have p := hi15.mul (hst.mul hdk)
    refine fb.mono (p.cast (by grind) rfl) ?_
    calc 15 * (2047 * (D * E)) = 15 * 2047 * (D * E) * 1 := by grind
      _ ≤ 15 * 2047 * (D * E) * den := Nat.mul_le_mul_left _ hden0
  · have a := hc t (by omega) ht
    have b := hd (k - t) (by omega) (by omega)
    have p := hi15.mul (a.mul b)
    have z : F ^ t * (pF m P * F ^ (k - t - 1)) = D := by
      rw [← hD, show k - 1 = t + (k - t - 1) by omega, Nat.pow_add]
      grind
    have z2 : GG ^ (m.length * t) * GG ^ (P.length + m.length * (k - t - 1)) = E := by
      rw [← hE, ← Nat.pow_add]
      congr 1
      rw [show k - 1 = t + (k - t - 1) by omega, Nat.mul_add]
      omega
    have p := p.cast (d' := D) (M' := 15 * (D * E)) (by rw [z]; omega) (by rw [← z, ← z2]; grind)
    refine (p.up (e := den) hden0 ?_ rfl)
    calc 15 * (D * E) * den = 15 * 1 * (D * E) * den := by grind
      _ ≤ 15 * 2047 * (D * E) * den := Nat.mul_le_mul_right _ (Nat.mul_le_mul_right _ (by decide))
/-- the bound of the next shaft's term -/
theorem BD.step {m : List MRow} {T : Nat → Nat → Rat} {F k i : Nat} {P : List Nat} (hF : 0 < F) (hk : 0 < k) (h15 : k ≤ 15) (hw : ∀ w, w < m.length → T w 0 = (m.getD w default).st) (hn : ∀ r ∈ m, ∀ q ∈ r.nums, q.num.natAbs ≤ 2047)
    (hi : m[i]? = some (m.getD i default)) (hwl : ∀ s w d, m.getD i default = .disc s w d → w < m.length) (hd : ∀ d ∈ (m.getD i default).drv, ∀ j, 0 < j → j ≤ k → BD m F P j (T d j))
    (hc : ∀ w, w < m.length → ∀ t, 0 < t → t < k → fb (F ^ t) (F ^ t * GG ^ (m.length * t)) (T w t)) (e : T i k = rowF (m.getD i default) T k) : BD m F (P ++ [i]) k (T i k) := by
  have hmem := List.mem_of_getElem? hi
  have hP := pF_pos m P
  have hFk : 0 < F ^ (k - 1) := Nat.pow_pos hF
  obtain ⟨D, hD⟩ : ∃ D, pF m P * F ^ (k - 1) = D := ⟨_, rfl⟩
  have hD0 : 0 < D := hD ▸ Nat.mul_pos hP hFk
  obtain ⟨E, hE⟩ : ∃ E, GG ^ (P.length + m.length * (k - 1)) = E := ⟨_, rfl⟩
  have hE0 : 0 < E := hE ▸ Nat.pow_pos (by decide)
  have hB : pF m (P ++ [i]) * F ^ (k - 1) = D * fr m i := by rw [pF_app, ← hD]; grind
  have hM : GG ^ ((P ++ [i]).length + m.length * (k - 1)) = E * GG := by
    rw [List.length_append, show P.length + [i].length + m.length * (k - 1) = (P.length + m.length * (k - 1)) + 1 by simp; omega, Nat.pow_succ, hE]
  unfold BD at hd ⊢
  rw [hB, hM, e]
  have hfr : fr m i = match m.getD i default with
    | .source _ => 1
    | .gear _ q _ => q.den
    | .adder _ _ _ => 1
    | .disc _ w _ => QQ * ((m.getD w default).st).den := rfl
  have hdk : ∀ d ∈ (m.getD i default).drv, fb D (D * E) (T d k) := fun d h => by
    have := hd d h k hk (Nat.le_refl _)
    rwa [hD, hE] at this
  revert hd hdk hfr hmem hwl
  cases m.getD i default with
  | source s =>
    intro hwl hd hmem hfr hdk
    have one : fb 1 1 (if k = 1 then (1 : Rat) else 0) := by
      split
      · exact fb.of_int 1 (by decide)
      · exact (fb.zero (by decide)).mono (by omega)
    refine one.up (e := D * fr m i) (Nat.mul_pos hD0 (fr_pos m i)) ?_ (by omega)
    rw [Nat.one_mul]
    exact Nat.le_mul_of_pos_right _ (Nat.mul_pos hE0 (by decide))
  | gear s q d =>
    intro hwl hd hmem hfr hdk
    have hfr : fr m i = q.den := hfr
    have hq := hn _ hmem q (by simp [MRow.nums])
    have := (fb.self q).mul (hdk d (by simp [MRow.drv]))
    rw [hfr]
    refine this.up (e := 1) (by decide) ?_ (by grind)
    calc q.num.natAbs * (D * E) * 1 ≤ (q.den * 2047) * (D * E) * 1 := Nat.mul_le_mul_right _ (Nat.mul_le_mul_right _ (Nat.le_trans hq (Nat.le_mul_of_pos_left _ q.den_pos)))
      _ = D * q.den * (E * 2047) := by grind
      _ ≤ D * q.den * (E * GG) := Nat.mul_le_mul_left _ (Nat.mul_le_mul_left _ (by decide))
  | adder s a b =>
    intro hwl hd hmem hfr hdk
    have hfr : fr m i = 1 := hfr
    have := (hdk a (by simp [MRow.drv])).add (hdk b (by simp [MRow.drv]))
    rw [hfr]
    refine this.up (e := 1) (by decide) ?_ rfl
    calc (D * E + D * E) * 1 = D * 1 * (E * 2) := by grind
      _ ≤ D * 1 * (E * GG) := Nat.mul_le_mul_left _ (Nat.mul_le_mul_left _ (by decide))
  | disc s w d =>
    intro hwl hd hmem hfr hdk
    have hwm := hwl s w d rfl
    obtain ⟨den, hden⟩ : ∃ x, ((m.getD w default).st).den = x := ⟨_, rfl⟩
    have hfr : fr m i = QQ * ((m.getD w default).st).den := hfr
    rw [hden] at hfr
    have hden0 : 0 < den := hden ▸ Rat.den_pos _
    have hst : fb den 2047 (T w 0) := by
      rw [hw w hwm]
      have := fb.self (m.getD w default).st
      rw [hden] at this
      refine this.mono (hn (m.getD w default) ?_ _ ?_)
      · rw [List.getD_eq_getElem?_getD, List.getElem?_eq_getElem hwm]
        exact List.getElem_mem hwm
      · cases m.getD w default <;> simp [MRow.nums, MRow.st]
    have term := BD.term hk h15 hst (hdk d (by simp [MRow.drv])) (hd d (by simp [MRow.drv])) (hc w hwm) hD hE hden0
    have hs := (fb.sum (Nat.mul_pos hD0 hden0) k term).div hk
    obtain ⟨c, hc1, hc2⟩ := QQ_dvd hk h15
    rw [hfr]
    refine hs.up (e := c) hc2 ?_ (by rw [hc1]; grind)
    calc k * (15 * 2047 * (D * E) * den) * c = D * (QQ * den) * (E * (15 * 2047)) := by rw [hc1]; grind
      _ ≤ D * (QQ * den) * (E * GG) := Nat.mul_le_mul_left _ (Nat.mul_le_mul_left _ (by decide))
theorem ordN_take (m : List MRow) (k : Nat) : ∀ j, (ordN m (k + j)).take (ordN m k).length = ordN m k
  | 0 => List.take_length
  | j + 1 => by
    show (ordN m (k + j) ++ _).take _ = _
    have ih := ordN_take m k j
    have hl : (ordN m k).length ≤ (ordN m (k + j)).length := by
      have := congrArg List.length ih
      rw [List.length_take] at this
      omega
    rw [List.take_append_of_le_length hl, ih]
theorem bounds {m : List MRow} (hm : Mach m) {T : Nat → Nat → Rat} (hT : Turn m T) (hn : ∀ r ∈ m, ∀ q ∈ r.nums, q.num.natAbs ≤ 2047) : ∀ k, 0 < k → k ≤ 15 → ∀ j, j ≤ m.length → ∀ d ∈ ordN m j, BD m (pF m (ordN m m.length)) (ordN m j) k (T d k) := by
  intro k
  induction k using Nat.strongRecOn with
  | ind k ih =>
    intro hk h15 j
    induction j with
    | zero => intro _ d hd; cases hd
    | succ j jh =>
      intro hj d hd
      obtain ⟨o1, o2, o3⟩ := ordN_ok hm j (by omega)
      obtain ⟨a, l, hc⟩ := List.exists_cons_of_ne_nil (rdy_some hm o2 o3 (by omega))
      have ho : ordN m (j + 1) = ordN m j ++ [a] := by
        show ordN m j ++ _ = _
        rw [hc]; rfl
      have ha : a ∈ rdy m (ordN m j) := by rw [hc]; simp
      rw [mem_rdy] at ha
      rw [ho] at hd ⊢
      rcases List.mem_append.mp hd with h | h
      · exact (jh (by omega) d h).more a
      · have : d = a := by simpa using h
        subst this
        refine BD.step (pF_pos m _) hk h15 hT.zero hn (hm.at ha.1) (fun s w q e => ?_) (fun e he i hi hik => ?_) (fun w hw t ht htk => ?_) (hT.step d k ha.1 hk)
        · exact hm.whl d s w q (by rw [hm.at ha.1, e])
        · by_cases z : i = k
          · subst z
            exact jh (by omega) e (ha.2.2 e he)
          · exact ih i (by omega) hi (by omega) j (by omega) e (ha.2.2 e he)
        · have all := rdy_all hm (rdy_end hm) w hw
          have := ih t htk ht (by omega) m.length (Nat.le_refl _) w all
          unfold BD at this
          obtain ⟨p1, _, _⟩ := ordN_ok hm m.length (Nat.le_refl _)
          rw [p1] at this
          obtain ⟨t', rfl⟩ : ∃ q, t = q + 1 := ⟨t - 1, by omega⟩
          rw [Nat.add_sub_cancel] at this
          refine this.cast (by rw [Nat.pow_succ]; grind) ?_
          rw [Nat.mul_succ, Nat.add_comm (m.length * t'), Nat.pow_succ]
          grind
theorem pF_lt {m : List MRow} {e : Nat} : ∀ (l : List Nat), (∀ i ∈ l, fr m i < 2 ^ e) → pF m l ≤ 2 ^ (e * l.length)
  | [], _ => by simp [pF]
  | i :: l, h => by
    have h1 := h i List.mem_cons_self
    have h2 := pF_lt l fun x hx => h x (List.mem_cons_of_mem _ hx)
    show fr m i * pF m l ≤ _
    rw [List.length_cons, Nat.mul_succ, Nat.add_comm, Nat.pow_add]
    exact Nat.mul_le_mul (Nat.le_of_lt h1) h2
theorem GG_lt (n : Nat) : GG ^ n ≤ 2 ^ (15 * n) := by
  rw [Nat.pow_mul]
  exact Nat.pow_le_pow_left (by decide) n
theorem full {m : List MRow} (hm : Mach m) {T : Nat → Nat → Rat} (hT : Turn m T) (hn : ∀ r ∈ m, ∀ q ∈ r.nums, q.num.natAbs ≤ 2047) {i k : Nat} (hi : i < m.length) (hk : 0 < k) (h15 : k ≤ 15) : BD m (pF m (ordN m m.length)) (ordN m m.length) k (T i k) :=
  bounds hm hT hn k hk h15 m.length (Nat.le_refl _) i (rdy_all hm (rdy_end hm) i hi)
theorem full_fb {m : List MRow} (hm : Mach m) {T : Nat → Nat → Rat} (hT : Turn m T) (hn : ∀ r ∈ m, ∀ q ∈ r.nums, q.num.natAbs ≤ 2047) {i k : Nat} (hi : i < m.length) (hk : 0 < k) (h15 : k ≤ 15) : fb (pF m (ordN m m.length) ^ k) (pF m (ordN m m.length) ^ k * GG ^ (m.length * k)) (T i k) := by
  have h := full hm hT hn hi hk h15
  unfold BD at h
  obtain ⟨p1, _, _⟩ := ordN_ok hm m.length (Nat.le_refl _)
  rw [p1] at h
  obtain ⟨t, rfl⟩ : ∃ q, k = q + 1 := ⟨k - 1, by omega⟩
  rw [Nat.add_sub_cancel] at h
  refine h.cast (by rw [Nat.pow_succ]; grind) ?_
  rw [Nat.mul_succ, Nat.add_comm (m.length * t), Nat.pow_succ]
  grind
theorem F_lt {m : List MRow} {B : Nat} (hB : pF m (ordN m m.length) ≤ 2 ^ B) (k : Nat) : pF m (ordN m m.length) ^ k ≤ 2 ^ (B * k) := by
  rw [Nat.pow_mul]
  exact Nat.pow_le_pow_left hB k
theorem B_of {m : List MRow} (hm : Mach m) {e : Nat} (hf : ∀ i, i < m.length → fr m i < 2 ^ e) : pF m (ordN m m.length) ≤ 2 ^ (e * m.length) := by
  obtain ⟨p1, _, p3⟩ := ordN_ok hm m.length (Nat.le_refl _)
  have := pF_lt (m := m) (e := e) (ordN m m.length) fun i hi => hf i (p3 i hi)
  rwa [p1] at this
/-- a told term's size -/
theorem turn_sz {m : List MRow} (hm : Mach m) {T : Nat → Nat → Rat} (hT : Turn m T) (hn : ∀ r ∈ m, ∀ q ∈ r.nums, sz 11 q) {B : Nat} (hB : pF m (ordN m m.length) ≤ 2 ^ B) {i k : Nat} (hi : i < m.length) (h15 : k ≤ 15) (hb : B * k + 15 * (m.length * k) ≤ 3870) : sz 3871 (T i k) := by
  by_cases h0 : k = 0
  · subst h0
    rw [hT.zero i hi]
    refine (hn (m.getD i default) ?_ _ ?_).mono (by omega)
    · rw [List.getD_eq_getElem?_getD, List.getElem?_eq_getElem hi]
      exact List.getElem_mem hi
    · cases m.getD i default <;> simp [MRow.nums, MRow.st]
  · have h := full_fb hm hT (fun r hr q hq => by have := (hn r hr q hq).1; omega) hi (by omega) h15
    have h1 := F_lt hB k
    have h2 := GG_lt (m.length * k)
    refine h.sz (Nat.lt_of_le_of_lt h1 (Nat.pow_lt_pow_right (by omega) (by omega))) ?_
    refine Nat.lt_of_le_of_lt (Nat.mul_le_mul h1 h2) ?_
    rw [← Nat.pow_add]
    exact Nat.pow_lt_pow_right (by omega) (by omega)
/-- a part of a disc's term: its size -/
theorem part_sz {m : List MRow} (hm : Mach m) {T : Nat → Nat → Rat} (hT : Turn m T) (hn : ∀ r ∈ m, ∀ q ∈ r.nums, sz 11 q) {B : Nat} (hB : pF m (ordN m m.length) ≤ 2 ^ B) {w d k : Nat} (hw : w < m.length) (hd : d < m.length) (hk : 0 < k) (h15 : k ≤ 15) (hb : B * k + 15 * (m.length * k) ≤ 3870) : (∀ j, j ≤ k → sz 3920 (af (T w) (T d) k j)) ∧ ∀ t, t < k → sz 3920 ((((k - t : Nat) : Int) : Rat) * (T w t * T d (k - t))) := by
  have hn' : ∀ r ∈ m, ∀ q ∈ r.nums, q.num.natAbs ≤ 2047 := fun r hr q hq => by have := (hn r hr q hq).1; omega
  obtain ⟨p1, _, p3⟩ := ordN_ok hm m.length (Nat.le_refl _)
  have hs : sz 11 (m.getD w default).st := by
    refine hn (m.getD w default) ?_ _ ?_
    · rw [List.getD_eq_getElem?_getD, List.getElem?_eq_getElem hw]
      exact List.getElem_mem hw
    · cases m.getD w default <;> simp [MRow.nums, MRow.st]
  obtain ⟨F, hF⟩ : ∃ F, pF m (ordN m m.length) = F := ⟨_, rfl⟩
  obtain ⟨D, hD⟩ : ∃ D, pF m (ordN m m.length) * F ^ (k - 1) = D := ⟨_, rfl⟩
  obtain ⟨E, hE⟩ : ∃ E, GG ^ ((ordN m m.length).length + m.length * (k - 1)) = E := ⟨_, rfl⟩
  have hst : fb (m.getD w default).st.den 2047 (T w 0) := by
    rw [hT.zero w hw]
    exact (fb.self _).mono (by have := hs.1; omega)
  have bd := fun j h1 h2 => full hm hT hn' (k := j) hd h1 h2
  rw [hF] at bd
  have term := BD.term (P := ordN m m.length) hk h15 hst (by have := bd k hk h15; unfold BD at this; rwa [hD, hE] at this) (fun j h1 h2 => bd j h1 (by omega)) (fun t h1 h2 => by
    have := full_fb hm hT hn' (k := t) hw h1 (by omega)
    rwa [hF] at this) hD hE (Rat.den_pos _)
  have hD0 : 0 < D := hD ▸ Nat.mul_pos (pF_pos m _) (Nat.pow_pos (hF ▸ pF_pos m _))
  have kk : ∃ t, k = t + 1 := ⟨k - 1, by omega⟩
  have d1 : D ≤ 2 ^ (B * k) := by
    have := F_lt hB k
    obtain ⟨t, rfl⟩ := kk
    rw [hF] at this hD
    rw [← hD, Nat.add_sub_cancel, Nat.mul_comm, ← Nat.pow_succ]
    exact this
  have e1 : E ≤ 2 ^ (15 * (m.length * k)) := by
    obtain ⟨t, rfl⟩ := kk
    rw [← hE, p1, Nat.add_sub_cancel, show m.length + m.length * t = m.length * (t + 1) by rw [Nat.mul_succ]; omega]
    exact GG_lt _
  have n1 : (m.getD w default).st.den ≤ 2 ^ 11 := Nat.le_of_lt hs.2
  have de : D * E ≤ 2 ^ 3870 := Nat.le_trans (Nat.mul_le_mul d1 e1) (by rw [← Nat.pow_add]; exact Nat.pow_le_pow_right (by omega) hb)
  have dd : D ≤ 2 ^ 3870 := Nat.le_trans d1 (Nat.pow_le_pow_right (by omega) (by omega))
  have c15 : 15 * 2047 ≤ 2 ^ 15 := by decide
  have bot : D * (m.getD w default).st.den < 2 ^ 3920 := by
    refine Nat.lt_of_le_of_lt (Nat.mul_le_mul dd n1) ?_
    rw [← Nat.pow_add]
    exact Nat.pow_lt_pow_right (by omega) (by omega)
  have top : 15 * 2047 * (D * E) * (m.getD w default).st.den ≤ 2 ^ (15 + 3870 + 11) := by
    rw [Nat.pow_add, Nat.pow_add]
    exact Nat.mul_le_mul (Nat.mul_le_mul c15 de) n1
  refine ⟨fun j hj => ?_, fun t ht => (term t ht).sz bot (Nat.lt_of_le_of_lt top (Nat.pow_lt_pow_right (by omega) (by omega)))⟩
  have hs2 := fb.sum (Nat.mul_pos hD0 (Rat.den_pos (m.getD w default).st)) j fun t ht => term t (by omega)
  refine hs2.sz bot ?_
  have j4 : j ≤ 2 ^ 4 := by omega
  refine Nat.lt_of_le_of_lt (Nat.mul_le_mul j4 top) ?_
  rw [← Nat.pow_add]
  exact Nat.pow_lt_pow_right (by omega) (by omega)
theorem ordN_at {m : List MRow} (hm : Mach m) {j : Nat} (hj : j < m.length) : ∃ a l, rdy m (ordN m j) = a :: l ∧ (ordN m m.length)[j]? = some a ∧ ordN m (j + 1) = ordN m j ++ [a] := by
  obtain ⟨o1, o2, o3⟩ := ordN_ok hm j (by omega)
  obtain ⟨a, l, hc⟩ := List.exists_cons_of_ne_nil (rdy_some hm o2 o3 (by omega))
  have ho : ordN m (j + 1) = ordN m j ++ [a] := by
    show ordN m j ++ _ = _
    rw [hc]; rfl
  refine ⟨a, l, hc, ?_, ho⟩
  have h := ordN_take m (j + 1) (m.length - (j + 1))
  rw [show j + 1 + (m.length - (j + 1)) = m.length by omega] at h
  have h2 : ((ordN m m.length).take (ordN m (j + 1)).length)[j]? = (ordN m (j + 1))[j]? := by rw [h]
  rw [List.getElem?_take, ho] at h2
  rw [if_pos (by simp [o1])] at h2
  rw [h2, List.getElem?_append_right (by omega), o1, Nat.sub_self]
  rfl
def tab (T : Nat → Nat → Rat) (n : Nat) (L : Nat → Nat) : D := .lst ((List.range n).map fun i => encS (tl (T i) (L i)))
theorem tab_ix {T : Nat → Nat → Rat} {n i : Nat} {L : Nat → Nat} (h : i < n) : dIx (tab T n L) (.int i) = some (encS (tl (T i) (L i))) := by
  refine ix_lN ?_
  rw [List.getElem?_map, List.getElem?_range h]
  rfl
theorem tl_ix {f : Nat → Rat} {n i : Nat} (h : i < n) : dIx (encS (tl f n)) (.int i) = some (enc (f i)) := by
  rw [ixS (by rw [tl_len]; exact h), tl_get h]
theorem tl_succ (f : Nat → Rat) (n : Nat) : tl f (n + 1) = tl f n ++ [f n] := by
  unfold tl
  rw [List.range_succ, List.map_append]
  rfl
theorem tab_congr {T : Nat → Nat → Rat} {n : Nat} {L L' : Nat → Nat} (h : ∀ i, i < n → L i = L' i) : tab T n L = tab T n L' := by
  unfold tab
  congr 1
  exact List.map_congr_left fun i hi => by rw [h i (List.mem_range.mp hi)]
/-- a loop through a range that begins elsewhere -/
theorem forL_rngL {T : Tg} {G : List D → SO} (lo : Int) (n : Nat) (I : Nat → List D → Prop) (σ : List D) (h0 : I 0 σ) (hs : ∀ (i : Nat) σ, i < n → I i σ → ∃ σ1 σ2, bindT T (.int (lo + i)) σ = some σ1 ∧ G σ1 = .nxt σ2 ∧ I (i + 1) σ2) : ∃ σ', forL T G (rngD lo n) σ = .nxt σ' ∧ I n σ' := by
  obtain ⟨σ', e, h⟩ := forL_inv (rngD lo n) I σ h0 fun i d σ hd hI => by
    obtain ⟨hi, rfl⟩ := rngD_at hd
    obtain ⟨σ1, σ2, a, b, c⟩ := hs i σ hi hI
    exact ⟨σ1, σ2, a, .inl b, c⟩
  rw [rngD_len] at h
  exact ⟨σ', e, h⟩
end Ow


namespace Ow
open PySem PySem.Spec PySem.SeqAt PyProof.Rows L2
/-- a row whose shafts are numbered otherwise -/
def MRow.ren (p : Nat → Nat) : MRow → MRow
  | .source s => .source s
  | .gear s q k => .gear s q (p k)
  | .adder s a b => .adder s (p a) (p b)
  | .disc s w k => .disc s (p w) (p k)
theorem rowF_ren (p : Nat → Nat) (r : MRow) (T : Nat → Nat → Rat) (k : Nat) : rowF (r.ren p) T k = rowF r (fun i => T (p i)) k := by
  cases r <;> rfl
theorem st_ren (p : Nat → Nat) (r : MRow) : (r.ren p).st = r.st := by
  cases r <;> rfl
/-- numbered otherwise, each shaft has the series that it had -/
theorem turn_ren {m m' : List MRow} {p : Nat → Nat} (hl : m'.length = m.length) (hp : ∀ i, i < m.length → p i < m.length) (hr : ∀ i, i < m.length → m'.getD (p i) default = (m.getD i default).ren p) {T : Nat → Nat → Rat} (hT : Turn m' T) : Turn m fun i => T (p i) := by
  refine ⟨fun i hi => ?_, fun i k hi hk => ?_⟩
  · show T (p i) 0 = _
    rw [hT.zero (p i) (by rw [hl]; exact hp i hi), hr i hi, st_ren]
  · show T (p i) k = _
    rw [hT.step (p i) k (by rw [hl]; exact hp i hi) hk, hr i hi, rowF_ren]
/-- two discs and an adder more: the product of both shafts -/
def greatM (m : List MRow) (a b : Nat) (s1 s2 : Rat) : List MRow := m ++ [.disc s1 a b, .disc s2 b a, .adder ((m.getD a default).st * (m.getD b default).st) m.length (m.length + 1)]
theorem greatM_len (m : List MRow) (a b : Nat) (s1 s2 : Rat) : (greatM m a b s1 s2).length = m.length + 3 := by
  unfold greatM
  rw [List.length_append]
  rfl
theorem greatM_at {m : List MRow} {a b : Nat} {s1 s2 : Rat} {i : Nat} {r : MRow} (h : (greatM m a b s1 s2)[i]? = some r) : (i < m.length ∧ m[i]? = some r) ∨ (i = m.length ∧ r = .disc s1 a b) ∨ (i = m.length + 1 ∧ r = .disc s2 b a) ∨ (i = m.length + 2 ∧ r = .adder ((m.getD a default).st * (m.getD b default).st) m.length (m.length + 1)) := by
  have hl := (List.getElem?_eq_some_iff.mp h).1
  rw [greatM_len] at hl
  unfold greatM at h
  by_cases hi : i < m.length
  · rw [List.getElem?_append_left hi] at h
    exact .inl ⟨hi, h⟩
  · rw [List.getElem?_append_right (by omega)] at h
    have : i = m.length ∨ i = m.length + 1 ∨ i = m.length + 2 := by omega
    rcases this with rfl | rfl | rfl
    · rw [Nat.sub_self] at h
      exact .inr (.inl ⟨rfl, (Option.some.inj h).symm⟩)
    · rw [show m.length + 1 - m.length = 1 by omega] at h
      exact .inr (.inr (.inl ⟨rfl, (Option.some.inj h).symm⟩))
    · rw [show m.length + 2 - m.length = 2 by omega] at h
      exact .inr (.inr (.inr ⟨rfl, (Option.some.inj h).symm⟩))
theorem Mach.great {m : List MRow} (h : Mach m) {a b : Nat} (ha : a < m.length) (hb : b < m.length) (s1 s2 : Rat) : Mach (greatM m a b s1 s2) := by
  have len := greatM_len m a b s1 s2
  refine ⟨by omega, ?_, ?_, ?_⟩
  · obtain ⟨s, t, e, u⟩ := h.src
    have hsl := (List.getElem?_eq_some_iff.mp e).1
    refine ⟨s, t, by unfold greatM; rw [List.getElem?_append_left hsl]; exact e, fun i r hr hs => ?_⟩
    rcases greatM_at hr with ⟨_, q⟩ | ⟨_, rfl⟩ | ⟨_, rfl⟩ | ⟨_, rfl⟩
    · exact u i r q hs
    · cases hs
    · cases hs
    · cases hs
  · obtain ⟨rk, hrk⟩ := h.rk
    refine ⟨fun i => if i < m.length then rk i else if i = m.length + 2 then rk a + rk b + 2 else rk a + rk b + 1, fun i r hr d hd => ?_⟩
    rcases greatM_at hr with ⟨hi, q⟩ | ⟨hi, rfl⟩ | ⟨hi, rfl⟩ | ⟨hi, rfl⟩
    · obtain ⟨x, y⟩ := hrk i r q d hd
      refine ⟨by omega, ?_⟩
      simp only
      rw [if_pos x, if_pos hi]
      exact y
    · have : d = b := by simpa [MRow.drv] using hd
      subst this
      refine ⟨by omega, ?_⟩
      simp only
      rw [if_pos hb, if_neg (by omega), if_neg (by omega)]
      omega
    · have : d = a := by simpa [MRow.drv] using hd
      subst this
      refine ⟨by omega, ?_⟩
      simp only
      rw [if_pos ha, if_neg (by omega), if_neg (by omega)]
      omega
    · have : d = m.length ∨ d = m.length + 1 := by simpa [MRow.drv] using hd
      refine ⟨by omega, ?_⟩
      simp only
      rw [if_neg (by omega), if_neg (by omega), if_neg (by omega), if_pos hi]
      omega
  · intro i s w k hr
    rcases greatM_at hr with ⟨_, q⟩ | ⟨_, e⟩ | ⟨_, e⟩ | ⟨_, e⟩
    · have := h.whl i s w k q
      omega
    · cases e; omega
    · cases e; omega
    · cases e
end Ow


namespace Ow
open PySem PySem.Spec PySem.SeqAt PyProof.Rows L2
def MRow.isAdder : MRow → Bool
  | .adder _ _ _ => true
  | _ => false
theorem perm_at {p : List Nat} {n : Nat} (hp : p.Perm (List.range n)) {i : Nat} (hi : i < n) : p.getD i 0 < n ∧ p.idxOf (p.getD i 0) = i ∧ p[i]? = some (p.getD i 0) := by
  have nd : p.Nodup := hp.nodup_iff.mpr List.nodup_range
  have hl : p.length = n := by rw [hp.length_eq, List.length_range]
  have e : p.getD i 0 = p[i]'(by omega) := by rw [List.getD_eq_getElem?_getD, List.getElem?_eq_getElem (by omega)]; rfl
  refine ⟨?_, ?_, ?_⟩
  · rw [e]; exact List.mem_range.mp (hp.mem_iff.mp (List.getElem_mem _))
  · rw [e, nd.idxOf_getElem]
  · rw [e, List.getElem?_eq_getElem]
theorem perm_to {p : List Nat} {n : Nat} (hp : p.Perm (List.range n)) {x : Nat} (hx : x < n) : p.idxOf x < n ∧ p.getD (p.idxOf x) 0 = x := by
  have hl : p.length = n := by rw [hp.length_eq, List.length_range]
  have hi := List.idxOf_lt_length_iff.mpr (hp.mem_iff.mpr (List.mem_range.mpr hx))
  refine ⟨by omega, ?_⟩
  rw [List.getD_eq_getElem?_getD, List.getElem?_eq_getElem hi, List.getElem_idxOf]
  rfl
/-- the machine numbered otherwise -/
def renM (m : List MRow) (p : List Nat) : List MRow := (List.range m.length).map fun x => (m.getD (p.idxOf x) default).ren fun i => p.getD i 0
theorem renM_len (m : List MRow) (p : List Nat) : (renM m p).length = m.length := by simp [renM]
theorem renM_at {m : List MRow} {p : List Nat} {x : Nat} (hx : x < m.length) : (renM m p)[x]? = some ((m.getD (p.idxOf x) default).ren fun i => p.getD i 0) := by
  unfold renM
  rw [List.getElem?_map, List.getElem?_range hx]
  rfl
theorem renM_get {m : List MRow} {p : List Nat} (hp : p.Perm (List.range m.length)) {i : Nat} (hi : i < m.length) : (renM m p).getD (p.getD i 0) default = (m.getD i default).ren fun i => p.getD i 0 := by
  obtain ⟨a, b, _⟩ := perm_at hp hi
  rw [List.getD_eq_getElem?_getD, renM_at a, b]
  rfl
theorem drv_ren (p : Nat → Nat) (r : MRow) : (r.ren p).drv = r.drv.map p := by cases r <;> rfl
theorem src_ren (p : Nat → Nat) (r : MRow) : (r.ren p).isSrc = r.isSrc := by cases r <;> rfl
theorem nums_ren (p : Nat → Nat) (r : MRow) : (r.ren p).nums = r.nums := by cases r <;> rfl
theorem Mach.ren {m : List MRow} (h : Mach m) {p : List Nat} (hp : p.Perm (List.range m.length)) : Mach (renM m p) := by
  have len := renM_len m p
  have inv : ∀ {x : Nat} {r : MRow}, (renM m p)[x]? = some r → ∃ i, i < m.length ∧ p.getD i 0 = x ∧ p.idxOf x = i ∧ r = (m.getD i default).ren fun i => p.getD i 0 := fun {x r} e => by
    have hx : x < m.length := by have := (List.getElem?_eq_some_iff.mp e).1; omega
    obtain ⟨a, b⟩ := perm_to hp hx
    rw [renM_at hx] at e
    exact ⟨_, a, b, rfl, (Option.some.inj e).symm⟩
  refine ⟨by have := h.pos; omega, ?_, ?_, ?_⟩
  · obtain ⟨s, t, e, u⟩ := h.src
    have hs := (List.getElem?_eq_some_iff.mp e).1
    obtain ⟨a, b, _⟩ := perm_at hp hs
    refine ⟨p.getD s 0, t, ?_, fun x r hr hsr => ?_⟩
    · rw [renM_at a, b, List.getD_eq_getElem?_getD, e]; rfl
    · obtain ⟨i, hi, hx, _, rfl⟩ := inv hr
      rw [src_ren] at hsr
      rw [← hx, u i _ (h.at hi) hsr]
  · obtain ⟨rk, hrk⟩ := h.rk
    refine ⟨fun x => rk (p.idxOf x), fun x r hr d hd => ?_⟩
    obtain ⟨i, hi, _, hx, rfl⟩ := inv hr
    rw [drv_ren] at hd
    obtain ⟨d0, hd0, rfl⟩ := List.mem_map.mp hd
    obtain ⟨a, b⟩ := hrk i _ (h.at hi) d0 hd0
    obtain ⟨c1, c2, _⟩ := perm_at hp a
    refine ⟨by rw [len]; exact c1, ?_⟩
    show rk (p.idxOf (p.getD d0 0)) < rk (p.idxOf x)
    rw [c2, hx]
    exact b
  · intro x s w k hr
    obtain ⟨i, hi, _, hx, e⟩ := inv hr
    cases e2 : m.getD i default with
    | disc s1 w1 k1 =>
      rw [e2] at e
      cases e
      rw [len]
      exact (perm_at hp (h.whl i s w1 k1 (by rw [h.at hi, e2]))).1
    | _ => rw [e2] at e; cases e
theorem turn_renM {m : List MRow} {p : List Nat} (hp : p.Perm (List.range m.length)) {T : Nat → Nat → Rat} (hT : Turn (renM m p) T) : Turn m fun i => T (p.getD i 0) :=
  turn_ren (p := fun i => p.getD i 0) (renM_len m p) (fun i hi => (perm_at hp hi).1) (fun i hi => renM_get hp hi) hT
theorem cut_mid {xs : List D} {a b : Nat} (h : a ≤ b) (h2 : b ≤ xs.length) : cutD xs (some (a : Int)) (some (b : Int)) = (xs.drop a).take (b - a) := by
  have h3 : ¬ ((a : Int) < 0) := by omega
  have h4 : ¬ ((b : Int) < 0) := by omega
  have e1 : HT.sIx xs.length 0 (some (a : Int)) = a := by
    show (if (a : Int) < 0 then ((a : Int) + xs.length).toNat else min (a : Int).toNat xs.length) = _
    rw [if_neg h3]; omega
  have e2 : HT.sIx xs.length xs.length (some (b : Int)) = b := by
    show (if (b : Int) < 0 then ((b : Int) + xs.length).toNat else min (b : Int).toNat xs.length) = _
    rw [if_neg h4]; omega
  unfold cutD
  rw [e1, e2]
theorem tl_cut {f : Nat → Rat} {n a c : Nat} (h : a + c ≤ n) : ((tl f n).drop a).take c = tl (fun j => f (a + j)) c := by
  apply List.ext_getElem
  · rw [List.length_take, List.length_drop, tl_len, tl_len]; omega
  · intro i h1 h2
    rw [List.getElem_take, List.getElem_drop]
    have e1 : ∀ (g : Nat → Rat) (c i : Nat) (h : i < (tl g c).length), (tl g c)[i] = g i := fun g c i h => by
      simp only [tl, List.getElem_map, List.getElem_range]
    rw [e1, e1]
end Ow


namespace Ow
open PySem PySem.Spec PySem.SeqAt PyProof.Rows L2
def bF (n L : Nat) (f : Nat → Rat) : Prop := ∃ d M, 0 < d ∧ d ≤ 2 ^ n ∧ M ≤ 2 ^ n ∧ ∀ i, i < L → fb d M (f i)
theorem bF.sz {n L : Nat} {f : Nat → Rat} (h : bF n L f) {i : Nat} (hi : i < L) : sz (n + 1) (f i) := by
  obtain ⟨d, M, h0, hd, hM, hf⟩ := h
  exact (hf i hi).sz (Nat.lt_of_le_of_lt hd (Nat.pow_lt_pow_right (by omega) (by omega))) (Nat.lt_of_le_of_lt hM (Nat.pow_lt_pow_right (by omega) (by omega)))
theorem bF.szS {n L : Nat} {f : Nat → Rat} (h : bF n L f) : szS (n + 1) (tl f L) := fun x hx => by
  unfold tl at hx
  obtain ⟨i, hi, rfl⟩ := List.mem_map.mp hx
  exact h.sz (List.mem_range.mp hi)
theorem bF.less {n L L' : Nat} {f : Nat → Rat} (h : bF n L f) (hl : L' ≤ L) : bF n L' f := by
  obtain ⟨d, M, h0, hd, hM, hf⟩ := h
  exact ⟨d, M, h0, hd, hM, fun i hi => hf i (by omega)⟩
theorem bF.mono {n n' L : Nat} {f : Nat → Rat} (h : bF n L f) (hn : n ≤ n') : bF n' L f := by
  obtain ⟨d, M, h0, hd, hM, hf⟩ := h
  have := Nat.pow_le_pow_right (show 0 < 2 by omega) hn
  exact ⟨d, M, h0, Nat.le_trans hd this, Nat.le_trans hM this, hf⟩
theorem bF.congr {n L : Nat} {f g : Nat → Rat} (h : bF n L f) (e : ∀ i, i < L → f i = g i) : bF n L g := by
  obtain ⟨d, M, h0, hd, hM, hf⟩ := h
  exact ⟨d, M, h0, hd, hM, fun i hi => by rw [← e i hi]; exact hf i hi⟩
theorem p2mul {a b n m : Nat} (ha : a ≤ 2 ^ n) (hb : b ≤ 2 ^ m) : a * b ≤ 2 ^ (n + m) := by
  rw [Nat.pow_add]
  exact Nat.mul_le_mul ha hb
theorem bF.add {n n' L : Nat} {f g : Nat → Rat} (h : bF n L f) (h2 : bF n' L g) : bF (n + n' + 1) L fun i => f i + g i := by
  obtain ⟨d, M, h0, hd, hM, hf⟩ := h
  obtain ⟨d', M', h0', hd', hM', hf'⟩ := h2
  refine ⟨d * d', M * d' + M' * d, Nat.mul_pos h0 h0', Nat.le_trans (p2mul hd hd') (Nat.pow_le_pow_right (by omega) (by omega)), ?_, fun i hi => ((hf i hi).lift d' h0').add (((hf' i hi).lift d h0).cast (Nat.mul_comm _ _) rfl)⟩
  have a := p2mul hM hd'
  have b := p2mul hM' hd
  rw [Nat.add_comm n' n] at b
  rw [Nat.pow_succ]
  omega
theorem bF.cv {n n' L : Nat} {f g : Nat → Rat} (h : bF n L f) (h2 : bF n' L g) (hL : L ≤ 16) : bF (n + n' + 4) L (Ow.cv f g) ∧ ∀ k j, k < L → j ≤ k + 1 → Ow.sz (n + n' + 5) (sumF (fun i => f i * g (k - i)) j) := by
  obtain ⟨d, M, h0, hd, hM, hf⟩ := h
  obtain ⟨d', M', h0', hd', hM', hf'⟩ := h2
  have key : ∀ k j, k < L → j ≤ k + 1 → fb (d * d') (16 * (M * M')) (sumF (fun i => f i * g (k - i)) j) := fun k j hk hj => (fb.sum (Nat.mul_pos h0 h0') j fun i hi => (hf i (by omega)).mul (hf' (k - i) (by omega))).mono (Nat.mul_le_mul_right _ (by omega))
  have a := p2mul hd hd'
  have b := p2mul (show 16 ≤ 2 ^ 4 by decide) (p2mul hM hM')
  have e1 : 2 ^ (4 + (n + n')) = 2 ^ (n + n' + 4) := by rw [Nat.add_comm]
  refine ⟨⟨d * d', 16 * (M * M'), Nat.mul_pos h0 h0', Nat.le_trans a (Nat.pow_le_pow_right (by omega) (by omega)), by rw [← e1]; exact b, fun k hk => key k (k + 1) hk (Nat.le_refl _)⟩, fun k j hk hj => (key k j hk hj).sz (Nat.lt_of_le_of_lt a (Nat.pow_lt_pow_right (by omega) (by omega))) (Nat.lt_of_le_of_lt b (Nat.pow_lt_pow_right (by omega) (by omega)))⟩
end Ow


namespace Ow
open PySem PySem.Spec PySem.SeqAt PyProof.Rows L2
end Ow


namespace Ow
open PySem PySem.Spec PySem.SeqAt PyProof.Rows L2
section
variable {σ : List D} {r : Nat}
theorem a_dnewT : eDNewT σ = .ok (.dT []) σ := (rfl)
def gt4 (r : Nat) (y : D) (x : ER D) : ER D := match x with
  | .ok z σ2 => ofO (dGetT (σ2.getD r .non) y z) σ2
  | .exc c p s => .exc c p s
  | .stuck => .stuck
def gt3 (r : Nat) (gf : List D → ER D) (x : ER D) : ER D := match x with
  | .ok y σ1 => gt4 r y (gf σ1)
  | .exc c p s => .exc c p s
  | .stuck => .stuck
def gt2 (r : Nat) (ge gf : List D → ER D) (σ : List D) (d : D) : ER D := if isDT d = true then gt3 r gf (ge σ) else .stuck
theorem a_getT {ge gf : List D → ER D} : eGetT r ge gf σ = gt2 r ge gf σ (σ.getD r .non) := by
  unfold eGetT gt2
  split
  · unfold gt3
    cases ge σ with
    | ok y σ1 =>
      show ER.bind (gf σ1) _ = _
      dsimp only
      unfold gt4
      cases gf σ1 <;> rfl
    | _ => rfl
  · rfl
theorem gt2_d {ge gf : List D → ER D} {kds : List (List Int × D)} : gt2 r ge gf σ (.dT kds) = gt3 r gf (ge σ) := (rfl)
theorem gt3_o {gf : List D → ER D} {y : D} : gt3 r gf (.ok y σ) = gt4 r y (gf σ) := (rfl)
theorem gt4_o {y z : D} : gt4 r y (.ok z σ) = ofO (dGetT (σ.getD r .non) y z) σ := (rfl)
def it3 (r : Nat) (x : ER D) : ER D := match x with
  | .ok y σ1 => ofO (dIxT (σ1.getD r .non) y) σ1
  | .exc c p s => .exc c p s
  | .stuck => .stuck
def it2 (r : Nat) (gi : List D → ER D) (σ : List D) (d : D) : ER D := if isDT d = true then it3 r (gi σ) else .stuck
theorem a_ixT {gi : List D → ER D} : eIxT r gi σ = it2 r gi σ (σ.getD r .non) := by
  unfold eIxT it2
  split
  · unfold it3
    cases gi σ <;> rfl
  · rfl
theorem it2_d {gi : List D → ER D} {kds : List (List Int × D)} : it2 r gi σ (.dT kds) = it3 r (gi σ) := (rfl)
theorem it3_o {y : D} : it3 r (.ok y σ) = ofO (dIxT (σ.getD r .non) y) σ := (rfl)
def st3 (r : Nat) (v : D) (x : ER D) : SO := match x with
  | .stuck => .stuck
  | .ok i σ1 => setd4 r σ1 (dPutT (σ1.getD r .non) i v)
  | .exc c p σ1 => .exc c p σ1
def st2 (r : Nat) (gi : List D → ER D) (x : ER D) : SO := match x with
  | .stuck => .stuck
  | .ok v σ1 => st3 r v (gi σ1)
  | .exc c p σ1 => .exc c p σ1
theorem a_setT {gv gi : List D → ER D} : sSetT r gv gi σ = st2 r gi (gv σ) := by
  unfold sSetT sOf st2
  cases gv σ with
  | ok v σ1 =>
    dsimp only
    unfold st3
    cases gi σ1 with
    | ok i σ2 => dsimp only; unfold setd4; cases dPutT (σ2.getD r .non) i v <;> rfl
    | _ => rfl
  | _ => rfl
theorem st2_o {gi : List D → ER D} {v : D} : st2 r gi (.ok v σ) = st3 r v (gi σ) := (rfl)
theorem st3_o {i v : D} : st3 r v (.ok i σ) = setd4 r σ (dPutT (σ.getD r .non) i v) := (rfl)
def ky2 (σ : List D) (d : D) : ER (List D) := match d with
  | .dT kds => .ok (kds.map fun kv => .tup (kv.1.map D.int)) σ
  | _ => .stuck
theorem a_keysT : gKeysT r σ = ky2 σ (σ.getD r .non) := (rfl)
theorem ky2_d {kds : List (List Int × D)} : ky2 σ (.dT kds) = .ok (kds.map fun kv => .tup (kv.1.map D.int)) σ := (rfl)
theorem take_at {α : Type} {l : List α} {i : Nat} {a : α} (h : l[i]? = some a) : l.take (i + 1) = l.take i ++ [a] := by
  rw [List.take_succ, h]; rfl
end
abbrev FRow := List Int × Rat
def pwD (p : List Int) : D := .tup (p.map D.int)
def putF (L : List FRow) (x : FRow) : List FRow := if (L.any fun y => decide (y.1 = x.1)) = true then L.map (fun y => if y.1 = x.1 then (y.1, x.2) else y) else L ++ [x]
def wS (φ : List Int → Rat) : List FRow → Rat
  | [] => 0
  | x :: F => x.2 * φ x.1 + wS φ F
theorem wS_append (φ : List Int → Rat) : ∀ F G : List FRow, wS φ (F ++ G) = wS φ F + wS φ G
  | [], G => by show wS φ G = 0 + wS φ G; grind
  | x :: F, G => by
    show x.2 * φ x.1 + wS φ (F ++ G) = x.2 * φ x.1 + wS φ F + wS φ G
    rw [wS_append φ F G]; grind
def fbF (d M : Nat) (F : List FRow) : Prop := ∀ x ∈ F, fb d M x.2
def keyP (P : List Int → Prop) (F : List FRow) : Prop := ∀ x ∈ F, P x.1
def addP (p q : List Int) : List Int := List.zipWith (· + ·) p q
theorem addP_len {p q : List Int} {n : Nat} (h : p.length = n) (h2 : q.length = n) : (addP p q).length = n := by
  unfold addP; rw [List.length_zipWith, h, h2, Nat.min_self]
/-- a form's letters, degree -/
def Pw (n g : Nat) (p : List Int) : Prop := p.length = n ∧ (∀ a ∈ p, 0 ≤ a) ∧ p.sum ≤ g
theorem Pw.len {n g : Nat} {F : List FRow} (h : keyP (Pw n g) F) : keyP (fun p => p.length = n) F := fun x hx => (h x hx).1
theorem addP_sum : ∀ p q : List Int, p.length = q.length → (addP p q).sum = p.sum + q.sum
  | [], [], _ => rfl
  | a :: p, b :: q, h => by
    show (a + b) + (addP p q).sum = (a + p.sum) + (b + q.sum)
    rw [addP_sum p q (by simpa using h)]; omega
  | [], _ :: _, h => by cases h
  | _ :: _, [], h => by cases h
theorem Pw.add {n g k : Nat} {p q : List Int} (h : Pw n g p) (h2 : Pw n k q) : Pw n (g + k) (addP p q) := by
  refine ⟨addP_len h.1 h2.1, ?_, ?_⟩
  · intro a ha
    unfold addP at ha
    rw [List.mem_iff_getElem?] at ha
    obtain ⟨i, e⟩ := ha
    rw [List.getElem?_zipWith] at e
    cases e1 : p[i]? with
    | none => rw [e1] at e; cases e
    | some x => cases e2 : q[i]? with
      | none => rw [e1, e2] at e; cases e
      | some y =>
        rw [e1, e2] at e
        have e : x + y = a := by simpa using e
        have := h.2.1 x (List.mem_of_getElem? e1)
        have := h2.2.1 y (List.mem_of_getElem? e2)
        omega
  · rw [addP_sum _ _ (h.1.trans h2.1.symm)]
    have := h.2.2
    have := h2.2.2
    omega
theorem sum_nonneg : ∀ {p : List Int}, (∀ a ∈ p, 0 ≤ a) → 0 ≤ p.sum
  | [], _ => Int.le_refl 0
  | a :: p, h => by
    have := sum_nonneg fun b hb => h b (List.mem_cons_of_mem a hb)
    have := h a List.mem_cons_self
    show 0 ≤ a + p.sum
    omega
theorem sum_take : ∀ {p : List Int} {i : Nat} {a : Int}, (∀ a ∈ p, 0 ≤ a) → p[i]? = some a → (p.take i).sum + a ≤ p.sum
  | b :: p, 0, a, h, e => by
    cases e
    have := sum_nonneg fun c hc => h c (List.mem_cons_of_mem b hc)
    show 0 + b ≤ b + p.sum
    omega
  | b :: p, i + 1, a, h, e => by
    have := sum_take (i := i) (fun b hb => h b (List.mem_cons_of_mem _ hb)) (by simpa using e)
    show b + (p.take i).sum + a ≤ b + p.sum
    omega
  | [], _, _, _, e => by simp at e
/-- numbers over one bottom -/
theorem common {s : Nat} : ∀ (F : List FRow), (∀ x ∈ F, sz s x.2) → ∃ d, 0 < d ∧ d ≤ 2 ^ (s * F.length) ∧ fbF d (2 ^ (s * F.length)) F
  | [], _ => ⟨1, by omega, Nat.one_le_two_pow, fun _ h => by cases h⟩
  | x :: F, h => by
    obtain ⟨d, h0, h1, h2⟩ := common F fun y hy => h y (List.mem_cons_of_mem _ hy)
    obtain ⟨n1, n2⟩ := h x List.mem_cons_self
    have e : 2 ^ (s * (x :: F).length) = 2 ^ s * 2 ^ (s * F.length) := by rw [List.length_cons, Nat.mul_succ, Nat.pow_add, Nat.mul_comm]
    refine ⟨x.2.den * d, Nat.mul_pos x.2.den_pos h0, by rw [e]; exact Nat.mul_le_mul (by omega) h1, ?_⟩
    intro y hy
    rcases List.mem_cons.mp hy with rfl | hy
    · have q : fb y.2.den y.2.num.natAbs y.2 := by
        have := fb.divInt (a := 1) (b := y.2.den) (d := y.2.den) (z := y.2.num) (M := y.2.num.natAbs) y.2.den_pos (Nat.mul_one _) y.2.den_pos (by rw [Nat.mul_one]; exact Nat.le_refl _)
        rwa [Rat.num_divInt_den] at this
      exact (q.lift d h0).mono (by rw [e]; exact Nat.mul_le_mul (by omega) h1)
    · have q := (h2 y hy).lift x.2.den x.2.den_pos
      rw [Nat.mul_comm d] at q
      exact q.mono (by rw [e, Nat.mul_comm]; exact Nat.mul_le_mul (by omega) (Nat.le_refl _))
/-- one more at a place -/
theorem sum_set : ∀ {p : List Int} {j : Nat} {a : Int}, p[j]? = some a → (p.set j (a + 1)).sum = p.sum + 1
  | b :: p, 0, a, h => by
    cases h
    show (b + 1) + p.sum = b + p.sum + 1
    omega
  | b :: p, j + 1, a, h => by
    show b + (p.set j (a + 1)).sum = b + p.sum + 1
    rw [sum_set (by simpa using h)]; omega
  | [], _, _, h => by simp at h
theorem Pw.set {n k j : Nat} {p : List Int} {a : Int} (h : Pw n k p) (e : p[j]? = some a) : Pw n (k + 1) (p.set j (a + 1)) := by
  refine ⟨by rw [List.length_set]; exact h.1, fun b hb => ?_, ?_⟩
  · rcases List.mem_or_eq_of_mem_set hb with hb | rfl
    · exact h.2.1 b hb
    · have := h.2.1 a (List.mem_of_getElem? e); omega
  · rw [sum_set e]; have := h.2.2; omega
theorem Pw.mono {n k l : Nat} {p : List Int} (h : Pw n k p) (hl : k ≤ l) : Pw n l p := ⟨h.1, h.2.1, by have := h.2.2; omega⟩
theorem Pw.zero (n : Nat) : Pw n 0 (List.replicate n 0) := by
  refine ⟨List.length_replicate, fun a ha => by rw [(List.mem_replicate.mp ha).2]; exact Int.le_refl 0, ?_⟩
  have : ∀ n : Nat, (List.replicate n (0 : Int)).sum = 0 := fun n => by
    induction n with
    | zero => rfl
    | succ n ih => rw [List.replicate_succ, List.sum_cons, ih]; rfl
  rw [this]; omega
theorem plain.pw {p : List Int} (h : p.length ≤ 10000) (n : Nat) : plain (n + 1) (pwD p) := ⟨by rw [List.length_map]; exact h, fun d hd => by
  obtain ⟨x, _, rfl⟩ := List.mem_map.mp hd
  exact plain.int x⟩
theorem fb_1 : fb 1 1 (1 : Rat) := ⟨by omega, 1, by decide +kernel, by decide⟩
end Ow


namespace Ow
open PySem PySem.Spec PySem.SeqAt PyProof.Rows L2
end Ow


namespace Ow
open PySem PySem.Spec PySem.SeqAt PyProof.Rows L2
end Ow


namespace Ow
open PySem PySem.Spec PySem.SeqAt PyProof.Rows L2
def mS (x : Nat → Rat) : Nat → (Nat → Rat) → Nat → Rat
  | 0, acc => acc
  | k + 1, acc => cv (mS x k acc) x
def mSer : List Int → List (Nat → Rat) → (Nat → Rat) → Nat → Rat
  | a :: p, x :: xs, acc => mSer p xs (mS x a.toNat acc)
  | _, _, acc => acc
def one0 (n : Nat) : Rat := if n = 0 then 1 else 0
/-- a form of series -/
def foS (F : List FRow) (xs : List (Nat → Rat)) (n : Nat) : Rat := wS (fun p => mSer p xs one0 n) F
/-- the series of a system -/
def Sys (Fs : List (List FRow)) (st : List Rat) (X : Nat → Nat → Rat) : Prop := (∀ i, i < Fs.length → X i 0 = st.getD i 0) ∧ ∀ i k, i < Fs.length → X i (k + 1) = foS (Fs.getD i []) ((List.range Fs.length).map X) k / (((k + 1 : Nat) : Int) : Rat)
theorem mS_gr {P E R S : Nat} {n0 : Nat} {x : Nat → Rat} (hn : n0 ≤ 16) (hx : ∀ n, n < n0 → fb (P ^ n * E) (R ^ n * S) (x n)) (hP : 0 < P) (hE : 0 < E) : ∀ (k t : Nat) (f : Nat → Rat), (∀ n, n < n0 → fb (P ^ n * E ^ t) (R ^ n * (16 * S) ^ t) (f n)) → ∀ n, n < n0 → fb (P ^ n * E ^ (t + k)) (R ^ n * (16 * S) ^ (t + k)) (mS x k f n)
  | 0, t, f, hf, n, h => hf n h
  | k + 1, t, f, hf, n, h => by
    have ih := mS_gr hn hx hP hE k t f hf
    show fb _ _ (sumF (fun i => mS x k f i * x (n - i)) (n + 1))
    have e : ∀ i, i < n + 1 → fb (P ^ n * E ^ (t + (k + 1))) (R ^ n * (16 * S) ^ (t + k) * S) (mS x k f i * x (n - i)) := fun i hi => by
      have := (ih i (by omega)).mul (hx (n - i) (by omega))
      have e1 : P ^ n = P ^ i * P ^ (n - i) := by rw [← Nat.pow_add, show i + (n - i) = n by omega]
      have e2 : R ^ n = R ^ i * R ^ (n - i) := by rw [← Nat.pow_add, show i + (n - i) = n by omega]
      have d : P ^ n * E ^ (t + (k + 1)) = P ^ i * E ^ (t + k) * (P ^ (n - i) * E) := by rw [e1, ← Nat.add_assoc, Nat.pow_succ]; grind
      have m : R ^ n * (16 * S) ^ (t + k) * S = R ^ i * (16 * S) ^ (t + k) * (R ^ (n - i) * S) := by rw [e2]; grind
      rw [d, m]
      exact this
    refine (fb.sum (Nat.mul_pos (Nat.pow_pos hP) (Nat.pow_pos hE)) (n + 1) e).mono ?_
    have : (n + 1) * (R ^ n * (16 * S) ^ (t + k) * S) ≤ 16 * (R ^ n * (16 * S) ^ (t + k) * S) := Nat.mul_le_mul (by omega) (Nat.le_refl _)
    refine Nat.le_trans this (Nat.le_of_eq ?_)
    rw [← Nat.add_assoc, Nat.pow_succ]
    grind
theorem mSer_gr {P E R S g n0 : Nat} (hn : n0 ≤ 16) (hP : 0 < P) (hE : 0 < E) (hES : E ≤ S) : ∀ {p : List Int} {xs : List (Nat → Rat)} {t : Nat} {f : Nat → Rat}, (∀ x ∈ xs, ∀ n, n < n0 → fb (P ^ n * E) (R ^ n * S) (x n)) → (∀ n, n < n0 → fb (P ^ n * E ^ t) (R ^ n * (16 * S) ^ t) (f n)) → (∀ a ∈ p, 0 ≤ a) → p.sum + t ≤ g → ∀ n, n < n0 → fb (P ^ n * E ^ g) (R ^ n * (16 * S) ^ g) (mSer p xs f n) := by
  have base : ∀ {t : Nat} {f : Nat → Rat}, (∀ n, n < n0 → fb (P ^ n * E ^ t) (R ^ n * (16 * S) ^ t) (f n)) → t ≤ g → ∀ n, n < n0 → fb (P ^ n * E ^ g) (R ^ n * (16 * S) ^ g) (f n) := fun {t f} hf ht n h => by
    refine (hf n h).up (e := E ^ (g - t)) (Nat.pow_pos hE) ?_ ?_
    · have : E ^ (g - t) ≤ (16 * S) ^ (g - t) := Nat.pow_le_pow_left (by omega) _
      refine Nat.le_trans (Nat.mul_le_mul (Nat.le_refl _) this) (Nat.le_of_eq ?_)
      rw [Nat.mul_assoc, ← Nat.pow_add, show t + (g - t) = g by omega]
    · rw [Nat.mul_assoc, ← Nat.pow_add, show t + (g - t) = g by omega]
  intro p
  induction p with
  | nil =>
      intro xs t f hx hf _ hs n h
      have hs : (0 : Int) + t ≤ g := hs
      show fb _ _ (f n)
      exact base hf (by omega) n h
  | cons a p ih =>
      intro xs t f hx hf hp hs n h
      have a0 := hp a List.mem_cons_self
      have p0 := sum_nonneg fun b hb => hp b (List.mem_cons_of_mem a hb)
      have hs : a + p.sum + t ≤ g := hs
      cases xs with
      | nil => exact base hf (by omega) n h
      | cons x xs => exact ih (fun y hy => hx y (List.mem_cons_of_mem _ hy)) (mS_gr hn (hx x List.mem_cons_self) hP hE a.toNat t f hf) (fun b hb => hp b (List.mem_cons_of_mem a hb)) (by omega) n h
theorem one0_gr {P E R S n0 : Nat} (hP : 0 < P) : ∀ n, n < n0 → fb (P ^ n * E ^ 0) (R ^ n * (16 * S) ^ 0) (one0 n) := fun n _ => by
  unfold one0
  split
  · rename_i h
    subst h
    exact fb_1.cast (by simp) (by simp)
  · exact (fb.zero (Nat.mul_pos (Nat.pow_pos hP) (by simp))).mono (Nat.zero_le _)
theorem wS_take {F : List FRow} {i : Nat} {x : FRow} {φ : List Int → Rat} (h : F[i]? = some x) : wS φ (F.take (i + 1)) = wS φ (F.take i) + x.2 * φ x.1 := by
  rw [take_at h, wS_append]
  show _ + (x.2 * φ x.1 + 0) = _
  grind
theorem fb_wS {d e M N : Nat} {F : List FRow} {φ : List Int → Rat} (hd : 0 < d) (he : 0 < e) (hf : fbF d M F) (h : ∀ x ∈ F, fb e N (φ x.1)) : ∀ i, i ≤ F.length → fb (d * e) (i * (M * N)) (wS φ (F.take i)) := by
  intro i
  induction i with
  | zero =>
    intro _
    rw [Nat.zero_mul]
    exact fb.zero (Nat.mul_pos hd he)
  | succ i ih =>
    intro hi
    have e : F[i]? = some F[i] := List.getElem?_eq_getElem (by omega)
    have hm := List.mem_of_getElem? e
    rw [wS_take e, Nat.succ_mul]
    exact (ih (by omega)).add ((hf _ hm).mul (h _ hm))
theorem fb_div {d N k c : Nat} {r : Rat} (h : fb d N r) (hk : 0 < k) (hc : 0 < c) : fb (d * (k * c)) (N * c) (r / ((k : Int) : Rat)) := by
  obtain ⟨d0, z, e, hz⟩ := h
  refine ⟨Nat.mul_pos d0 (Nat.mul_pos hk hc), z * c, ?_, ?_⟩
  · have k0 : ((k : Int) : Rat) ≠ 0 := cast_pos_ne hk
    rw [cast_mul, cast_mul, Rat.intCast_mul, ← e]
    have q : r / ((k : Int) : Rat) * ((k : Int) : Rat) = r := Rat.div_mul_cancel k0
    grind
  · rw [Int.natAbs_mul, Int.natAbs_natCast]
    exact Nat.mul_le_mul hz (Nat.le_refl _)
/-- a system's numbers: letters n, degree g, rows l, over D and E -/
structure SysB (g l D M E S : Nat) (Fs : List (List FRow)) (st : List Rat) : Prop where
  g0 : 0 < g
  D0 : 0 < D
  E0 : 0 < E
  S0 : E ≤ S
  pw : ∀ F ∈ Fs, keyP (Pw Fs.length g) F
  len : ∀ F ∈ Fs, F.length ≤ l
  cf : ∀ F ∈ Fs, fbF D M F
  bg : ∀ i, i < Fs.length → Ow.fb E S (st.getD i 0)
def sysP (g D E : Nat) : Nat := QQ * D * E ^ (g - 1)
def sysR (g l M S : Nat) : Nat := QQ * l * M * (16 * S) ^ g
theorem SysB.gr {g l D M E S : Nat} {Fs : List (List FRow)} {st : List Rat} (h : SysB g l D M E S Fs st) {X : Nat → Nat → Rat} (hX : Sys Fs st X) : ∀ n0, n0 ≤ 16 → ∀ n, n < n0 → ∀ i, i < Fs.length → fb (sysP g D E ^ n * E) (sysR g l M S ^ n * S) (X i n) := by
  have P0 : 0 < sysP g D E := Nat.mul_pos (Nat.mul_pos (by decide) h.D0) (Nat.pow_pos h.E0)
  intro n0
  induction n0 with
  | zero => intro _ n hn; omega
  | succ n0 ih =>
    intro h16 n hn i hi
    by_cases e : n < n0
    · exact ih (by omega) n e i hi
    have e : n = n0 := by omega
    subst e
    cases n with
    | zero =>
      rw [hX.1 i hi]
      exact (h.bg i hi).cast (by simp) (by simp)
    | succ n =>
      rw [hX.2 i n hi]
      have hF : Fs.getD i [] ∈ Fs := by
        rw [List.getD_eq_getElem?_getD, List.getElem?_eq_getElem hi]
        exact List.getElem_mem hi
      have hxs : ∀ x ∈ (List.range Fs.length).map X, ∀ k, k < n + 1 → fb (sysP g D E ^ k * E) (sysR g l M S ^ k * S) (x k) := fun x hx k hk => by
        obtain ⟨j, hj, rfl⟩ := List.mem_map.mp hx
        exact ih (by omega) k hk j (List.mem_range.mp hj)
      have a := fb_wS (φ := fun p => mSer p ((List.range Fs.length).map X) one0 n) h.D0 (Nat.mul_pos (Nat.pow_pos P0) (Nat.pow_pos h.E0)) (h.cf _ hF) (fun x hx => mSer_gr (g := g) (t := 0) (f := one0) (n0 := n + 1) (by omega) P0 h.E0 h.S0 hxs (one0_gr P0) (h.pw _ hF x hx).2.1 (by have := (h.pw _ hF x hx).2.2; omega) n (by omega)) _ (Nat.le_refl _)
      rw [List.take_length] at a
      obtain ⟨c, hc, c0⟩ := QQ_dvd (k := n + 1) (by omega) (by omega)
      have b := fb_div a (show 0 < n + 1 by omega) c0
      rw [← hc] at b
      refine (b.cast (d' := sysP g D E ^ (n + 1) * E) ?_ rfl).mono ?_
      · have eg : E ^ g = E ^ (g - 1) * E := by rw [← Nat.pow_succ]; congr 1; have := h.g0; omega
        rw [Nat.pow_succ, eg]
        show D * (sysP g D E ^ n * (E ^ (g - 1) * E)) * QQ = sysP g D E ^ n * (QQ * D * E ^ (g - 1)) * E
        grind
      · have cq : c ≤ QQ := by rw [hc]; exact Nat.le_mul_of_pos_left c (by omega)
        have s1 : 1 ≤ S := Nat.le_trans h.E0 h.S0
        have r1 : (Fs.getD i []).length * (M * (sysR g l M S ^ n * (16 * S) ^ g)) * c ≤ l * (M * (sysR g l M S ^ n * (16 * S) ^ g)) * QQ := Nat.mul_le_mul (Nat.mul_le_mul (h.len _ hF) (Nat.le_refl _)) cq
        refine Nat.le_trans r1 ?_
        have r2 : l * (M * (sysR g l M S ^ n * (16 * S) ^ g)) * QQ = sysR g l M S ^ (n + 1) := by
          rw [Nat.pow_succ]
          show _ = sysR g l M S ^ n * (QQ * l * M * (16 * S) ^ g)
          grind
        rw [r2]
        exact Nat.le_mul_of_pos_right _ s1
structure FaB (g l D M E S P R s many : Nat) (F : List FRow) (xs : List (Nat → Rat)) : Prop where
  m0 : 0 < many
  m16 : many ≤ 16
  P0 : 0 < P
  D0 : 0 < D
  E0 : 0 < E
  M0 : 0 < M
  S0 : E ≤ S
  pw : keyP (Pw xs.length g) F
  len : F.length ≤ l
  cf : fbF D M F
  gx : ∀ x ∈ xs, ∀ n, n < many → fb (P ^ n * E) (R ^ n * S) (x n)
  g1 : g ≤ 100
  n1 : xs.length ≤ 500
  l1 : l ≤ 500
  s0 : 0 < s
  s1 : s ≤ 2900
  b1 : ∀ n, n < many → D * (P ^ n * E ^ (g + 1)) < 2 ^ s
  b2 : ∀ n, n < many → (l + 1) * (M * (16 * (R ^ n * (16 * S) ^ (g + 1)))) < 2 ^ s
section
variable {g l D M E S P R s many : Nat} {F : List FRow} {xs : List (Nat → Rat)}
theorem FaB.lo (z : FaB g l D M E S P R s many F xs) {n : Nat} (h : n < many) : D * (P ^ n * E ^ g) < 2 ^ s ∧ P ^ n * E ^ g < 2 ^ s ∧ P ^ n * E ^ g * E < 2 ^ s := by
  have a := z.b1 n h
  rw [Nat.pow_succ, ← Nat.mul_assoc (P ^ n)] at a
  have e1 := z.E0
  have d1 := z.D0
  have h1 : P ^ n * E ^ g ≤ P ^ n * E ^ g * E := Nat.le_mul_of_pos_right _ e1
  have h2 : P ^ n * E ^ g * E ≤ D * (P ^ n * E ^ g * E) := Nat.le_mul_of_pos_left _ d1
  have h3 : D * (P ^ n * E ^ g) ≤ D * (P ^ n * E ^ g * E) := Nat.mul_le_mul (Nat.le_refl _) h1
  omega
theorem FaB.hi (z : FaB g l D M E S P R s many F xs) {n : Nat} (h : n < many) : l * (M * (R ^ n * (16 * S) ^ g)) < 2 ^ s ∧ M * (R ^ n * (16 * S) ^ g) < 2 ^ s ∧ R ^ n * (16 * S) ^ g < 2 ^ s ∧ 16 * (R ^ n * (16 * S) ^ g * S) < 2 ^ s := by
  have a := z.b2 n h
  have s1 : 1 ≤ S := Nat.le_trans z.E0 z.S0
  have m1 := z.M0
  have h0 : R ^ n * (16 * S) ^ g * S ≤ R ^ n * (16 * S) ^ (g + 1) := by
    rw [Nat.pow_succ, ← Nat.mul_assoc]
    exact Nat.mul_le_mul (Nat.le_refl _) (by omega)
  have h1 : R ^ n * (16 * S) ^ g ≤ R ^ n * (16 * S) ^ g * S := Nat.le_mul_of_pos_right _ s1
  obtain ⟨Y, hY⟩ : ∃ Y, R ^ n * (16 * S) ^ (g + 1) = Y := ⟨_, rfl⟩
  obtain ⟨Z, hZ⟩ : ∃ Z, R ^ n * (16 * S) ^ g = Z := ⟨_, rfl⟩
  rw [hY] at a h0
  rw [hZ] at h0 h1 ⊢
  have k1 : 16 * Y ≤ M * (16 * Y) := Nat.le_mul_of_pos_left _ m1
  have k2 : M * (16 * Y) ≤ (l + 1) * (M * (16 * Y)) := Nat.le_mul_of_pos_left _ (Nat.succ_pos l)
  have k3 : M * Z ≤ M * (16 * Y) := Nat.mul_le_mul (Nat.le_refl _) (by omega)
  have k4 : l * (M * Z) ≤ (l + 1) * (M * (16 * Y)) := Nat.mul_le_mul (by omega) k3
  refine ⟨by omega, by omega, by omega, ?_⟩
  have : 16 * (Z * S) ≤ 16 * Y := Nat.mul_le_mul (Nat.le_refl _) h0
  omega
theorem FaB.xacc (z : FaB g l D M E S P R s many F xs) {q : List Int} (q0 : ∀ a ∈ q, 0 ≤ a) (q1 : q.sum ≤ g) : ∀ n, n < many → fb (P ^ n * E ^ g) (R ^ n * (16 * S) ^ g) (mSer q xs one0 n) :=
  mSer_gr (g := g) (t := 0) (f := one0) z.m16 z.P0 z.E0 z.S0 z.gx (one0_gr z.P0) q0 (by omega)
theorem FaB.acc (z : FaB g l D M E S P R s many F xs) {x : FRow} (hx : x ∈ F) {i : Nat} {a : Int} (ha : x.1[i]? = some a) {k : Nat} (hk : (k : Int) ≤ a) : ∀ n, n < many → fb (P ^ n * E ^ g) (R ^ n * (16 * S) ^ g) (mSer (x.1.take i ++ [(k : Int)]) xs one0 n) := by
  obtain ⟨p1, p2, p3⟩ := z.pw x hx
  refine z.xacc (fun b hb => ?_) ?_
  · rcases List.mem_append.mp hb with hb | hb
    · exact p2 b (List.mem_of_mem_take hb)
    · rw [List.mem_singleton.mp hb]; omega
  · have := sum_take p2 ha
    rw [List.sum_append]
    simp only [List.sum_cons, List.sum_nil]
    omega
theorem FaB.part (z : FaB g l D M E S P R s many F xs) {f y : Nat → Rat} (hf : ∀ n, n < many → fb (P ^ n * E ^ g) (R ^ n * (16 * S) ^ g) (f n)) (hy : y ∈ xs) {n j : Nat} (hn : n < many) (hj : j ≤ n) : sz s (pT (tl f many) (tl y many) n j) := by
  rw [pT_sum]
  have m16 := z.m16
  have e : ∀ i, i < j → fb (P ^ n * E ^ g * E) (R ^ n * (16 * S) ^ g * S) ((tl f many).getD i 0 * (tl y many).getD (n - i) 0) := fun i hi => by
    rw [tl_get (by omega), tl_get (by omega)]
    have := (hf i (by omega)).mul (z.gx y hy (n - i) (by omega))
    have e1 : P ^ n = P ^ i * P ^ (n - i) := by rw [← Nat.pow_add, show i + (n - i) = n by omega]
    have e2 : R ^ n = R ^ i * R ^ (n - i) := by rw [← Nat.pow_add, show i + (n - i) = n by omega]
    refine this.cast ?_ ?_
    · rw [e1]; grind
    · rw [e2]; grind
  have d0 : 0 < P ^ n * E ^ g * E := Nat.mul_pos (Nat.mul_pos (Nat.pow_pos z.P0) (Nat.pow_pos z.E0)) z.E0
  refine (fb.sum d0 j e).sz (z.lo hn).2.2 ?_
  have := (z.hi hn).2.2.2
  have : j * (R ^ n * (16 * S) ^ g * S) ≤ 16 * (R ^ n * (16 * S) ^ g * S) := Nat.mul_le_mul (by omega) (Nat.le_refl _)
  omega
theorem FaB.row (z : FaB g l D M E S P R s many F xs) {x : FRow} (hx : x ∈ F) {n : Nat} (h : n < many) : sz s x.2 ∧ sz s (mSer x.1 xs one0 n) ∧ sz s (x.2 * mSer x.1 xs one0 n) := by
  obtain ⟨p1, p2, p3⟩ := z.pw x hx
  have a := z.xacc p2 p3 n h
  obtain ⟨l1, l2, _⟩ := z.lo h
  obtain ⟨h1, h2, h3, _⟩ := z.hi h
  have pe : 0 < P ^ n * E ^ g := Nat.mul_pos (Nat.pow_pos z.P0) (Nat.pow_pos z.E0)
  refine ⟨?_, a.sz l2 h3, ((z.cf x hx).mul a).sz l1 h2⟩
  obtain ⟨l1', _, _⟩ := z.lo z.m0
  obtain ⟨_, h2', _, _⟩ := z.hi z.m0
  have e0 : 0 < P ^ 0 * E ^ g := Nat.mul_pos (Nat.pow_pos z.P0) (Nat.pow_pos z.E0)
  have r0 : 0 < R ^ 0 * (16 * S) ^ g := Nat.mul_pos (by simp) (Nat.pow_pos (by have := Nat.le_trans z.E0 z.S0; omega))
  refine (z.cf x hx).sz ?_ ?_
  · exact Nat.lt_of_le_of_lt (Nat.le_mul_of_pos_right _ e0) l1'
  · exact Nat.lt_of_le_of_lt (Nat.le_mul_of_pos_right _ r0) h2'
theorem FaB.sums (z : FaB g l D M E S P R s many F xs) {i n : Nat} (hi : i ≤ F.length) (h : n < many) : sz s (foS (F.take i) xs n) := by
  have pe : 0 < P ^ n * E ^ g := Nat.mul_pos (Nat.pow_pos z.P0) (Nat.pow_pos z.E0)
  have := fb_wS (φ := fun p => mSer p xs one0 n) z.D0 pe z.cf (fun x hx => z.xacc (z.pw x hx).2.1 (z.pw x hx).2.2 n h) i hi
  have ll := z.len
  exact this.sz (z.lo h).1 (Nat.lt_of_le_of_lt (Nat.mul_le_mul (by omega) (Nat.le_refl _)) (z.hi h).1)
end
/-- all that a system's series ask -/
structure SysZ (g l C M E S s many : Nat) (Fs : List (List FRow)) (st : List Rat) : Prop where
  B : SysB g l C M E S Fs st
  m16 : many ≤ 16
  M0 : 0 < M
  g1 : g ≤ 100
  n1 : Fs.length ≤ 500
  l1 : l ≤ 500
  s0 : 0 < s
  s1 : s ≤ 2900
  b1 : ∀ n, n < many → C * (sysP g C E ^ n * E ^ (g + 1)) < 2 ^ s
  b2 : ∀ n, n < many → (l + 1) * (M * (16 * (sysR g l M S ^ n * (16 * S) ^ (g + 1)))) < 2 ^ s
theorem SysZ.fa {g l C M E S s many : Nat} {Fs : List (List FRow)} {st : List Rat} (z : SysZ g l C M E S s many Fs st) {X : Nat → Nat → Rat} (hX : Sys Fs st X) {k : Nat} (k0 : 0 < k) (hk : k ≤ many) {F : List FRow} (hF : F ∈ Fs) : FaB g l C M E S (sysP g C E) (sysR g l M S) s k F ((List.range Fs.length).map X) where
  m0 := k0
  m16 := Nat.le_trans hk z.m16
  P0 := Nat.mul_pos (Nat.mul_pos (by decide) z.B.D0) (Nat.pow_pos z.B.E0)
  D0 := z.B.D0
  E0 := z.B.E0
  M0 := z.M0
  S0 := z.B.S0
  pw := by rw [List.length_map, List.length_range]; exact z.B.pw F hF
  len := z.B.len F hF
  cf := z.B.cf F hF
  gx := fun x hx n hn => by
    obtain ⟨i, hi, rfl⟩ := List.mem_map.mp hx
    exact z.B.gr hX many z.m16 n (by omega) i (List.mem_range.mp hi)
  g1 := z.g1
  n1 := by rw [List.length_map, List.length_range]; exact z.n1
  l1 := z.l1
  s0 := z.s0
  s1 := z.s1
  b1 := fun n hn => z.b1 n (by omega)
  b2 := fun n hn => z.b2 n (by omega)
section
variable {g l C M E S P R s many : Nat} {F : List FRow} {xs : List (Nat → Rat)}
end
end Ow


namespace Ow
open PySem PySem.Spec PySem.SeqAt PyProof.Rows L2
/-- powers less one at a place -/
def onceP (p : List Int) (k : Nat) (a : Int) : List Int := p.take k ++ [a - 1] ++ p.drop (k + 1)
theorem onceP_set {p : List Int} {k : Nat} (h : k < p.length) (a : Int) : onceP p k a = p.set k (a - 1) := by
  unfold onceP
  apply List.ext_getElem
  · simp only [List.length_append, List.length_take, List.length_drop, List.length_set, List.length_cons, List.length_nil]; omega
  · intro i h1 h2
    rw [List.getElem_set]
    by_cases e : k = i
    · subst e
      rw [if_pos rfl, List.getElem_append_left (by simp; omega), List.getElem_append_right (by simp; omega)]
      simp [Nat.min_eq_left (Nat.le_of_lt h)]
    · rw [if_neg e]
      by_cases lt : i < k
      · rw [List.getElem_append_left (by simp; omega), List.getElem_append_left (by simp; omega), List.getElem_take]
      · rw [List.getElem_append_right (by simp; omega), List.getElem_drop]
        simp only [List.length_append, List.length_take, List.length_cons, List.length_nil]
        congr 1
        omega
theorem onceP_len {p : List Int} {k : Nat} (h : k < p.length) (a : Int) : (onceP p k a).length = p.length := by rw [onceP_set h, List.length_set]
theorem sum_put : ∀ {p : List Int} {k : Nat} (x : Int), k < p.length → (p.set k x).sum = p.sum - p.getD k 0 + x
  | [], _, _, h => absurd h (by simp)
  | a :: p, 0, x, _ => by simp; omega
  | a :: p, k + 1, x, h => by
    have := sum_put (p := p) (k := k) x (by simpa using h)
    simp only [List.set_cons_succ, List.sum_cons, this, List.getD_cons_succ]
    omega
theorem Pw.once {n g k : Nat} {p : List Int} {a : Int} (h : Pw n (g + 1) p) (hk : p[k]? = some a) (ha : 0 < a) : Pw n g (onceP p k a) := by
  have hl := (List.getElem?_eq_some_iff.mp hk).1
  have ea : p.getD k 0 = a := by rw [List.getD_eq_getElem?_getD, hk]; rfl
  refine ⟨by rw [onceP_len hl]; exact h.1, ?_, ?_⟩
  · rw [onceP_set hl]
    intro b hb
    rcases List.mem_or_eq_of_mem_set hb with hb | hb
    · exact h.2.1 b hb
    · omega
  · rw [onceP_set hl, sum_put _ hl, ea]
    have := h.2.2
    omega
theorem fbF.app {d M : Nat} {F G : List FRow} (h : fbF d M F) (h2 : fbF d M G) : fbF d M (F ++ G) := fun x hx => (List.mem_append.mp hx).elim (h x) (h2 x)
theorem fbF.mono {d M N : Nat} {F : List FRow} (h : fbF d M F) (hM : M ≤ N) : fbF d N F := fun x hx => (h x hx).mono hM
theorem fbF.lift {d M : Nat} (e : Nat) {F : List FRow} (h : fbF d M F) (he : 0 < e) : fbF (d * e) (M * e) F := fun x hx => (h x hx).lift e he
end Ow


namespace Ow
open PySem PySem.Spec PySem.SeqAt PyProof.Rows L2
end Ow


namespace Ow
open PySem PySem.Spec PySem.SeqAt PyProof.Rows L2
section
variable {n h : Nat} {xs : List (Nat → Rat)} {S : Nat → List FRow}
end
end Ow


namespace Ow
open PySem PySem.Spec PySem.SeqAt PyProof.Rows L2
/-- a for that may hand something back -/
theorem forL_ret {T : Tg} {G : List D → SO} (Q : D → List D → Prop) : ∀ (ds : List D) (I : Nat → List D → Prop) (σ : List D), I 0 σ →
    (∀ (i : Nat) d σ, ds[i]? = some d → I i σ → ∃ σ1, bindT T d σ = some σ1 ∧ ((∃ σ2, (G σ1 = .nxt σ2 ∨ G σ1 = .cnt σ2) ∧ I (i + 1) σ2) ∨ ∃ v σ2, G σ1 = .ret v σ2 ∧ Q v σ2)) →
    (∃ σ', forL T G ds σ = .nxt σ' ∧ I ds.length σ') ∨ ∃ v σ', forL T G ds σ = .ret v σ' ∧ Q v σ'
  | [], I, σ, h0, _ => .inl ⟨σ, rfl, h0⟩
  | d :: ds, I, σ, h0, hs => by
    obtain ⟨σ1, e1, h⟩ := hs 0 d σ rfl h0
    rcases h with ⟨σ2, e2, h1⟩ | ⟨v, σ2, e2, h1⟩
    · have := forL_ret Q ds (fun i => I (i + 1)) σ2 h1 fun i d σ hd hI => hs (i + 1) d σ (by simpa using hd) hI
      have e : forL T G (d :: ds) σ = forL T G ds σ2 := by
        rw [forL, e1]
        dsimp only
        rcases e2 with e2 | e2 <;> rw [e2]
      rw [e]
      exact this
    · refine .inr ⟨v, σ2, ?_, h1⟩
      rw [forL, e1]
      dsimp only
      rw [e2]
/-- .. over things by what they stand for -/
theorem forL_retM {α : Type} {T : Tg} {G : List D → SO} (Q : D → List D → Prop) (g : α → D) (l : List α) (I : Nat → List D → Prop) (σ : List D) (h0 : I 0 σ)
    (hs : ∀ (i : Nat) a σ, l[i]? = some a → I i σ → ∃ σ1, bindT T (g a) σ = some σ1 ∧ ((∃ σ2, (G σ1 = .nxt σ2 ∨ G σ1 = .cnt σ2) ∧ I (i + 1) σ2) ∨ ∃ v σ2, G σ1 = .ret v σ2 ∧ Q v σ2)) :
    (∃ σ', forL T G (l.map g) σ = .nxt σ' ∧ I l.length σ') ∨ ∃ v σ', forL T G (l.map g) σ = .ret v σ' ∧ Q v σ' := by
  have := forL_ret (T := T) (G := G) Q (l.map g) I σ h0 fun i d σ hd hI => by
    rw [List.getElem?_map] at hd
    cases e : l[i]? with
    | none => rw [e] at hd; cases hd
    | some a =>
      rw [e] at hd
      cases hd
      exact hs i a σ e hI
  rwa [List.length_map] at this
end Ow


namespace Ow
open PySem PySem.Spec PySem.SeqAt PyProof.Rows L2
/-- a fault: of a start, of a gear's ratio, of a disc that slips -/
inductive Fl where
  | start (i : Nat) (q : Rat)
  | gear (i : Nat) (q : Rat)
  | slip (i : Nat) (q : Rat)
  deriving DecidableEq
def Fl.word : Fl → Str
  | .start _ _ => "start"
  | .gear _ _ => "gear"
  | .slip _ _ => "slip"
def Fl.at : Fl → Nat
  | .start i _ => i
  | .gear i _ => i
  | .slip i _ => i
def Fl.num : Fl → Rat
  | .start _ q => q
  | .gear _ q => q
  | .slip _ q => q
def MRow.putS (q : Rat) : MRow → MRow
  | .source _ => .source q
  | .gear _ r k => .gear q r k
  | .adder _ a b => .adder q a b
  | .disc _ w k => .disc q w k
def MRow.putG (q : Rat) : MRow → MRow
  | .gear s _ k => .gear s q k
  | r => r
def flM (m : List MRow) : Fl → List MRow
  | .start i q => m.set i ((m.getD i default).putS q)
  | .gear i q => m.set i ((m.getD i default).putG q)
  | .slip i q => m.set i (.gear (m.getD i default).st q m.length) ++ [.disc 0 (m.getD i default).mid (m.getD i default).last]
/-- a row exchanged that is driven alike -/
theorem Mach.put {m : List MRow} (h : Mach m) {i : Nat} (hi : i < m.length) {r : MRow} (hd : r.drv = (m.getD i default).drv) (hs : r.isSrc = (m.getD i default).isSrc) (ht : ∀ t, (m.getD i default) = .source t → ∃ t', r = .source t') (hw : ∀ s w k, r = .disc s w k → ∃ s', m.getD i default = .disc s' w k) : Mach (m.set i r) := by
  have at' : ∀ (j : Nat) (x : MRow), (m.set i r)[j]? = some x → (j = i ∧ x = r) ∨ (j ≠ i ∧ m[j]? = some x) := fun j x e => by
    rw [List.getElem?_set] at e
    split at e
    · rename_i ej
      subst ej
      first
        | (cases e; exact .inl ⟨rfl, rfl⟩)
        | (rw [if_pos hi] at e; cases e; exact .inl ⟨rfl, rfl⟩)
    · rename_i ej
      exact .inr ⟨fun z => ej z.symm, e⟩
  have hm := h.at hi
  refine ⟨by rw [List.length_set]; exact h.pos, ?_, ?_, ?_⟩
  · obtain ⟨s, t, e1, e2⟩ := h.src
    by_cases e : s = i
    · subst e
      rw [hm] at e1
      obtain ⟨t', rfl⟩ := ht t (Option.some.inj e1)
      refine ⟨s, t', List.getElem?_set_self hi, fun j x hj hx => ?_⟩
      rcases at' j x hj with ⟨rfl, rfl⟩ | ⟨ne, hj⟩
      · rfl
      · exact e2 j x hj hx
    · refine ⟨s, t, by rw [List.getElem?_set_ne (fun z => e z.symm)]; exact e1, fun j x hj hx => ?_⟩
      rcases at' j x hj with ⟨rfl, rfl⟩ | ⟨ne, hj⟩
      · exact e2 j _ hm (by rw [← hs]; exact hx)
      · exact e2 j x hj hx
  · obtain ⟨rk, hrk⟩ := h.rk
    refine ⟨rk, fun j x hj d hd' => ?_⟩
    rw [List.length_set]
    rcases at' j x hj with ⟨rfl, rfl⟩ | ⟨ne, hj⟩
    · exact hrk j _ hm d (by rw [← hd]; exact hd')
    · exact hrk j x hj d hd'
  · intro j s w k hj
    rw [List.length_set]
    rcases at' j _ hj with ⟨rfl, e⟩ | ⟨ne, hj⟩
    · obtain ⟨s', e'⟩ := hw s w k e.symm
      exact h.whl j s' w k (by rw [hm, e'])
    · exact h.whl j s w k hj
/-- what the law's own walk comes to: a machine's turning, the shaft at sl but a share -/
structure Walk (m : List MRow) (sl : Int) (q : Rat) (T : Nat → Nat → Rat) : Prop where
  zero : ∀ i, i < m.length → T i 0 = (m.getD i default).st
  step : ∀ (i k : Nat), i < m.length → 0 < k → T i k = if (i : Int) = sl then q * rowF (m.getD i default) T k else rowF (m.getD i default) T k
theorem Turn.walk {m : List MRow} {T : Nat → Nat → Rat} (h : Turn m T) (q : Rat) : Walk m (-1) q T := ⟨h.zero, fun i k hi hk => by rw [if_neg (by omega)]; exact h.step i k hi hk⟩
theorem Turn.slip {m : List MRow} (hm : Mach m) {i : Nat} (hi : i < m.length) {s q : Rat} {w k : Nat} (e : m.getD i default = .disc s w k) {T : Nat → Nat → Rat} (h : Turn (flM m (.slip i q)) T) : Walk m i q T ∧ ∀ t, 0 < t → T m.length t = rowF (m.getD i default) T t := by
  have ll : (flM m (.slip i q)).length = m.length + 1 := by simp [flM]
  have ed : flM m (.slip i q) = m.set i (.gear s q m.length) ++ [.disc 0 w k] := by
    show m.set i (.gear (m.getD i default).st q m.length) ++ [.disc 0 (m.getD i default).mid (m.getD i default).last] = _
    rw [e]; rfl
  have gi : (flM m (.slip i q)).getD i default = .gear s q m.length := by
    rw [ed, List.getD_eq_getElem?_getD, List.getElem?_append_left (by rw [List.length_set]; exact hi), List.getElem?_set_self hi]; rfl
  have gn : (flM m (.slip i q)).getD m.length default = .disc 0 w k := by
    rw [ed, List.getD_eq_getElem?_getD, List.getElem?_append_right (by rw [List.length_set]; omega), List.length_set, Nat.sub_self]; rfl
  have go : ∀ j, j < m.length → j ≠ i → (flM m (.slip i q)).getD j default = m.getD j default := fun j hj ne => by
    rw [ed, List.getD_eq_getElem?_getD, List.getElem?_append_left (by rw [List.length_set]; exact hj), List.getElem?_set_ne ne.symm, List.getD_eq_getElem?_getD]
  have hn : ∀ t, 0 < t → T m.length t = rowF (m.getD i default) T t := fun t ht => by
    rw [h.step m.length t (by rw [ll]; omega) ht, gn, e]
    rfl
  refine ⟨⟨fun j hj => ?_, fun j t hj ht => ?_⟩, hn⟩
  · rw [h.zero j (by rw [ll]; omega)]
    by_cases ne : j = i
    · subst ne; rw [gi, e]; rfl
    · rw [go j hj ne]
  · rw [h.step j t (by rw [ll]; omega) ht]
    by_cases ne : j = i
    · subst ne
      rw [gi, if_pos rfl]
      show q * T m.length t = _
      rw [hn t ht]
    · rw [go j hj ne, if_neg (by omega)]
end Ow


namespace Ow
open PySem PySem.Spec PySem.SeqAt PyProof.Rows L2
def nP (N : Nat) (r : Rat) : Prop := r.num.natAbs ≤ N ∧ r.den ≤ N
theorem nP.mono {N M : Nat} {r : Rat} (h : nP N r) (hm : N ≤ M) : nP M r := ⟨Nat.le_trans h.1 hm, Nat.le_trans h.2 hm⟩
theorem nP.sz {N n : Nat} {r : Rat} (h : nP N r) (hn : N < 2 ^ n) : Ow.sz n r := ⟨Nat.lt_of_le_of_lt h.1 hn, Nat.lt_of_le_of_lt h.2 hn⟩
end Ow


namespace Ow
open PySem PySem.Spec PySem.SeqAt PyProof.Rows L2
end Ow


namespace Ow
open PySem PySem.Spec PySem.SeqAt PyProof.Rows L2
end Ow


namespace Ow
open PySem PySem.Spec PySem.SeqAt PyProof.Rows L2
section
variable {σ : List D}
def sfld2 (r : Nat) (c f : Str) (v : D) (σ : List D) : D → SO
  | .ins c' fds => if c' = c ∧ fds.length < 100 then .nxt (σ.set r (.ins c (putD f v fds))) else .stuck
  | _ => .stuck
def setfldK (r : Nat) (c f : Str) (e0 : ER D) : SO := match e0 with
  | .stuck => .stuck
  | .ok v σ1 => sfld2 r c f v σ1 (σ1.getD r .non)
  | .exc c p σ1 => .exc c p σ1
theorem a_setfld {r : Nat} {c f : Str} {g : List D → ER D} : sSetFld r c f g σ = setfldK r c f (g σ) := by
  unfold sSetFld sOf setfldK
  cases g σ with
  | ok v σ1 =>
    show (match σ1.getD r .non with | .ins c' fds => _ | _ => _) = sfld2 r c f v σ1 (σ1.getD r .non)
    cases σ1.getD r .non <;> rfl
  | _ => rfl
theorem setfldK_o {r : Nat} {c f : Str} {v : D} : setfldK r c f (.ok v σ) = sfld2 r c f v σ (σ.getD r .non) := (rfl)
def mk2 (r : FR) (σ : List D) : ER D := match r with
  | .stuck => .stuck
  | .ret d outs => (match d, outs with
    | .non, [o] => .ok o σ
    | _, _ => .stuck)
  | .exc c p outs => .exc c p σ
def makeK (c : Str) (Fd : List D → FR) (e0 : ER (List D)) : ER D := match e0 with
  | .stuck => .stuck
  | .ok ds σ1 => mk2 (Fd (.ins c [] :: ds)) σ1
  | .exc c p σ1 => .exc c p σ1
theorem a_make {c : Str} {Fd : List D → FR} {gs : List D → ER (List D)} : eMake c Fd gs σ = makeK c Fd (gs σ) := by
  unfold eMake makeK ER.bind
  cases gs σ with
  | ok ds σ1 => unfold mk2; rfl
  | _ => rfl
theorem makeK_o {c : Str} {Fd : List D → FR} {ds : List D} : makeK c Fd (.ok ds σ) = mk2 (Fd (.ins c [] :: ds)) σ := (rfl)
theorem mk2_r {o : D} : mk2 (.ret .non [o]) σ = .ok o σ := (rfl)
def gins2 (b : Bool) (d : D) (σ : List D) : ER D := if b = true then .ok d σ else .stuck
def ginsK (c m : Str) (e0 : ER D) : ER D := match e0 with
  | .stuck => .stuck
  | .ok d σ1 => gins2 (okM c m d) d σ1
  | .exc c p σ1 => .exc c p σ1
theorem a_gins {c m : Str} {g : List D → ER D} : gIns c m g σ = ginsK c m (g σ) := by
  unfold gIns ginsK ER.bind gins2
  cases g σ <;> rfl
theorem ginsK_o {c m : Str} {d : D} : ginsK c m (.ok d σ) = gins2 (okM c m d) d σ := (rfl)
theorem gins2_t {d : D} : gins2 true d σ = .ok d σ := (rfl)
def callS2 (b : Bool) (e : ER D) : ER D := if b = true then e else .stuck
theorem a_callS {c m : Str} {r : Nat} {F : List D → FR} {rs : List Nat} {gs : List D → ER (List D)} : eCallS c m r F rs gs σ = callS2 (okM c m (σ.getD r .non)) (eCall F rs (aSlot r gs) σ) := (rfl)
theorem callS2_t {e : ER D} : callS2 true e = e := (rfl)
def par3K (i j l : Nat) (e0 : ER (List D)) : SO := match e0 with
  | .stuck => .stuck
  | .exc c p σ1 => .exc c p σ1
  | .ok [x, y, z] σ1 => .nxt (((σ1.set i x).set j y).set l z)
  | .ok _ _ => .stuck
theorem a_par3 {i j l : Nat} {gs : List D → ER (List D)} : sPar3 i j l gs σ = par3K i j l (gs σ) := by
  unfold sPar3 par3K
  cases gs σ <;> rfl
theorem par3K_o {i j l : Nat} {x y z : D} : par3K i j l (.ok [x, y, z] σ) = .nxt (((σ.set i x).set j y).set l z) := (rfl)
end
end Ow


namespace Ow
open PySem PySem.Spec PySem.SeqAt PyProof.Rows L2
structure Wd (m : List MRow) : Prop where
  pos : 0 < m.length
  src : ∃ (s : Nat) (t : Rat), m[s]? = some (MRow.source t) ∧ ∀ (i : Nat) (r : MRow), m[i]? = some r → r.isSrc = true → i = s
  rng : ∀ (i : Nat) (r : MRow), m[i]? = some r → ∀ d ∈ r.drv, d < m.length
  whl : ∀ (i : Nat) (s : Rat) (w k : Nat), m[i]? = some (MRow.disc s w k) → w < m.length
theorem Wd.at {m : List MRow} (h : Wd m) {i : Nat} (hi : i < m.length) : m[i]? = some (m.getD i default) := by
  rw [List.getD_eq_getElem?_getD, List.getElem?_eq_getElem hi]; rfl
inductive Der (m : List MRow) : Nat → Prop
  | mk (i : Nat) (hi : i < m.length) (h : ∀ d ∈ drvs m i, Der m d) : Der m i
theorem Der.lt {m : List MRow} {i : Nat} (h : Der m i) : i < m.length := by cases h with | mk _ hi _ => exact hi
theorem Der.drv {m : List MRow} {i : Nat} (h : Der m i) : ∀ d ∈ drvs m i, Der m d := by cases h with | mk _ _ q => exact q
end Ow


namespace Ow
open PySem PySem.Spec PySem.SeqAt PyProof.Rows L2
section
variable {σ : List D}
end
structure Core where
  rows : List MRow
  stood : Nat → Rat
  sums : Nat → Rat
  outs : Nat → Bool
  lims : Nat → Option Rat × Option Rat
section
variable (c : Core) (p : List D)
end
/-- how far a shaft is moved -/
def mvF (r : MRow) (S M : Nat → Rat) (q : Rat) : Rat := match r with
  | .source _ => q
  | .gear _ k d => k * M d
  | .adder _ a b => M a + M b
  | .disc _ w d => S w * M d
def longB (r : Rat) : Bool := decide (10 ^ 60 ≤ r.num.natAbs) || decide (10 ^ 60 ≤ r.den)
def aboveB (a b : Rat) : Bool := decide (b.num * (a.den : Int) < a.num * (b.den : Int))
def beyondB (l : Option Rat × Option Rat) (x : Rat) : Bool := (match l.1 with
  | none => false
  | some a => aboveB a x) || (match l.2 with
  | none => false
  | some b => aboveB x b)
def Core.clicked (c : Core) (μ : Nat → Rat) : Core := { c with stood := fun i => c.stood i + μ i, sums := fun i => c.sums i + μ i }
end Ow


namespace Ow
open PySem PySem.Spec PySem.SeqAt PyProof.Rows L2
section
variable {σ : List D}
def catch2 (cs : List ClD) : SO → SO
  | .exc c p σ => catchM cs c p σ
  | r => r
theorem a_tryM {G : List D → SO} {cs : List ClD} : sTryM G cs σ = catch2 cs (G σ) := by
  unfold sTryM catch2
  cases G σ <;> rfl
theorem catch2_nxt {cs : List ClD} : catch2 cs (.nxt σ) = .nxt σ := (rfl)
theorem catch2_ret {cs : List ClD} {d : D} : catch2 cs (.ret d σ) = .ret d σ := (rfl)
theorem catch2_exc {cs : List ClD} {c : Str} {p : D} : catch2 cs (.exc c p σ) = catchM cs c p σ := (rfl)
def raise2 (c : Str) : ER (List D) → SO
  | .ok [d] σ1 => .exc c d σ1
  | .exc c' p σ1 => .exc c' p σ1
  | _ => .stuck
theorem a_raiseF {c : Str} {gs : List D → ER (List D)} : sRaiseF c gs σ = raise2 c (gs σ) := by
  unfold sRaiseF raise2
  cases gs σ with
  | ok ds σ1 =>
    cases ds with
    | nil => rfl
    | cons d ds => cases ds <;> rfl
  | _ => rfl
theorem raise2_o {c : Str} {d : D} : raise2 c (.ok [d] σ) = .exc c d σ := (rfl)
def xf2 (f : Str) (r : ER D) : ER D := r.bind fun d σ1 => match d with
  | .exn c p => if pfOf c = some f ∧ c ∈ excAll then .ok p σ1 else .stuck
  | _ => .stuck
theorem a_xf {f : Str} {g : List D → ER D} : eXf f g σ = xf2 f (g σ) := (rfl)
end
end Ow


namespace Ow
open PySem PySem.Spec PySem.SeqAt PyProof.Rows L2
section
variable {m : List MRow} {p : List Nat} {n : Nat}
theorem Wd.ren (h : Wd m) (hp : p.Perm (List.range m.length)) : Wd (renM m p) := by
  have row : ∀ {x : Nat} {r : MRow}, (renM m p)[x]? = some r → ∃ i, i < m.length ∧ p.getD i 0 = x ∧ r = (m.getD i default).ren fun i => p.getD i 0 := fun {x r} e => by
    have hx : x < m.length := by
      have := (List.getElem?_eq_some_iff.mp e).1
      rwa [renM_len] at this
    obtain ⟨h1, h2⟩ := perm_to hp hx
    rw [renM_at hx] at e
    exact ⟨_, h1, h2, (Option.some.inj e).symm⟩
  refine ⟨by rw [renM_len]; exact h.pos, ?_, fun x r e d hd => ?_, fun x s w k e => ?_⟩
  · obtain ⟨s, t, e, u⟩ := h.src
    have hs := (List.getElem?_eq_some_iff.mp e).1
    obtain ⟨a, b, _⟩ := perm_at hp hs
    refine ⟨p.getD s 0, t, ?_, fun x r e2 hr => ?_⟩
    · rw [renM_at a, b]
      have : m.getD s default = .source t := by rw [List.getD_eq_getElem?_getD, e]; rfl
      rw [this]; rfl
    · obtain ⟨i, hi, hx, rfl⟩ := row e2
      rw [src_ren] at hr
      rw [← hx, u i _ (h.at hi) hr]
  · obtain ⟨i, hi, hx, rfl⟩ := row e
    rw [drv_ren] at hd
    obtain ⟨d0, h0, rfl⟩ := List.mem_map.mp hd
    rw [renM_len]
    exact (perm_at hp (h.rng i _ (h.at hi) d0 h0)).1
  · obtain ⟨i, hi, hx, er⟩ := row e
    rw [renM_len]
    cases hr : m.getD i default with
    | disc s' w' k' =>
      rw [hr] at er
      cases er
      exact (perm_at hp (h.whl i _ w' k' (by rw [h.at hi, hr]))).1
    | _ => rw [hr] at er; cases er
theorem disc_ren (f : Nat → Nat) (r : MRow) : (r.ren f).isDisc = r.isDisc := by cases r <;> rfl
theorem last_ren (f : Nat → Nat) (r : MRow) (h : r.isDisc = true) : (r.ren f).last = f r.last := by
  cases r with
  | disc s w k => rfl
  | _ => cases h
theorem mem_discsB {i : Nat} : i ∈ discs m ↔ i < m.length ∧ (m.getD i default).isDisc = true := by
  unfold discs
  simp [List.mem_filter]
theorem Wd.last_lt (h : Wd m) {i : Nat} (hi : i ∈ discs m) : (m.getD i default).last < m.length := by
  obtain ⟨h1, h2⟩ := mem_discsB.mp hi
  have := h.rng i _ (h.at h1)
  revert this h2
  cases m.getD i default with
  | disc s w k => exact fun _ h => h k (by simp [MRow.drv])
  | _ => exact fun h => by cases h
theorem Wd.put (h : Wd m) {i : Nat} (hi : i < m.length) {r : MRow} (hs : r.isSrc = false) (hs0 : (m.getD i default).isSrc = false) (hd : ∀ d ∈ r.drv, d < m.length) (hw : ∀ s w k, r = .disc s w k → w < m.length) : Wd (m.set i r) := by
  have at_ : ∀ {j : Nat} {q : MRow}, (m.set i r)[j]? = some q → (j = i ∧ q = r) ∨ (j ≠ i ∧ m[j]? = some q) := fun {j q} e => by
    by_cases z : i = j
    · subst z
      rw [List.getElem?_set_self hi] at e
      exact .inl ⟨rfl, (Option.some.inj e).symm⟩
    · rw [List.getElem?_set_ne z] at e
      exact .inr ⟨Ne.symm z, e⟩
  refine ⟨by rw [List.length_set]; exact h.pos, ?_, fun j q e d hdq => ?_, fun j s w k e => ?_⟩
  · obtain ⟨s, t, e, u⟩ := h.src
    have ne : i ≠ s := fun z => by
      subst z
      have : m.getD i default = .source t := by rw [List.getD_eq_getElem?_getD, e]; rfl
      rw [this] at hs0; cases hs0
    refine ⟨s, t, by rw [List.getElem?_set_ne ne]; exact e, fun j q e2 hq => ?_⟩
    rcases at_ e2 with ⟨_, rfl⟩ | ⟨_, e3⟩
    · rw [hs] at hq; cases hq
    · exact u j q e3 hq
  · rw [List.length_set]
    rcases at_ e with ⟨_, rfl⟩ | ⟨_, e3⟩
    · exact hd d hdq
    · exact h.rng j q e3 d hdq
  · rw [List.length_set]
    rcases at_ e with ⟨_, e3⟩ | ⟨_, e3⟩
    · exact hw s w k e3.symm
    · exact h.whl j s w k e3
end
end Ow


namespace Ow
open PySem PySem.Spec PySem.SeqAt PyProof.Rows L2
theorem Wd.one {m : List MRow} (h : Wd m) : (m.filter MRow.isSrc).length = 1 := by
  obtain ⟨s, t, hs, hu⟩ := h.src
  exact one_such MRow.isSrc m s ⟨_, hs, rfl⟩ hu
end Ow


namespace Ow
open PySem PySem.Spec PySem.SeqAt PyProof.Rows L2
/-- bits above, bits below -/
def zd (n d : Nat) (r : Rat) : Prop := r.num.natAbs < 2 ^ n ∧ r.den < 2 ^ d
theorem sz.zd {n : Nat} {r : Rat} (h : sz n r) : zd n n r := h
theorem zd.mono {n d n' d' : Nat} {r : Rat} (h : zd n d r) (h1 : n ≤ n') (h2 : d ≤ d') : zd n' d' r := ⟨Nat.lt_of_lt_of_le h.1 (Nat.pow_le_pow_right (by omega) h1), Nat.lt_of_lt_of_le h.2 (Nat.pow_le_pow_right (by omega) h2)⟩
theorem fb.le {d M : Nat} {r : Rat} (h : fb d M r) : r.den ≤ d ∧ r.num.natAbs ≤ M := by
  obtain ⟨h1, z, e, hz⟩ := h
  have hd : ((d : Int) : Rat) ≠ 0 := fun q => by
    have : (d : Int) = 0 := Rat.intCast_inj.mp (by rw [q]; rfl)
    omega
  have er : r = Rat.divInt z d := by
    rw [Rat.divInt_eq_div, ← e]
    grind
  obtain ⟨a, b⟩ := den_le' z d (by omega)
  rw [er]
  exact ⟨by rw [Int.natAbs_natCast] at a; exact a, Nat.le_trans b hz⟩
/-- the moves of a click -/
structure Moves (c : Core) (q : Rat) (μ : Nat → Rat) : Prop where
  of_ : ∀ i, i < c.rows.length → μ i = if c.outs i = true then 0 else mvF (c.rows.getD i default) c.stood μ q
/-- a row's part of the moves' bottom -/
def gF (m : List MRow) (S : Nat → Rat) (i : Nat) : Nat := match m.getD i default with
  | .gear _ k _ => k.den
  | .disc _ w _ => (S w).den
  | _ => 1
def pG (m : List MRow) (S : Nat → Rat) : List Nat → Nat
  | [] => 1
  | i :: l => gF m S i * pG m S l
theorem gF_pos (m : List MRow) (S : Nat → Rat) (i : Nat) : 0 < gF m S i := by
  unfold gF
  cases m.getD i default with
  | gear s k d => exact k.den_pos
  | disc s w d => exact Rat.den_pos _
  | _ => exact Nat.one_pos
theorem pG_pos (m : List MRow) (S : Nat → Rat) : ∀ l, 0 < pG m S l
  | [] => Nat.one_pos
  | i :: l => Nat.mul_pos (gF_pos m S i) (pG_pos m S l)
theorem pG_app (m : List MRow) (S : Nat → Rat) (i : Nat) : ∀ l, pG m S (l ++ [i]) = pG m S l * gF m S i
  | [] => by show gF m S i * 1 = 1 * gF m S i; omega
  | j :: l => by
    show gF m S j * pG m S (l ++ [i]) = gF m S j * pG m S l * gF m S i
    rw [pG_app m S i l, Nat.mul_assoc]
theorem pG_lt {m : List MRow} {S : Nat → Rat} {e : Nat} : ∀ (l : List Nat), (∀ i ∈ l, gF m S i < 2 ^ e) → pG m S l ≤ 2 ^ (e * l.length)
  | [], _ => by simp [pG]
  | i :: l, h => by
    have h1 := h i List.mem_cons_self
    have h2 := pG_lt l fun x hx => h x (List.mem_cons_of_mem _ hx)
    show gF m S i * pG m S l ≤ _
    rw [List.length_cons, Nat.mul_succ, Nat.add_comm, Nat.pow_add]
    exact Nat.mul_le_mul (Nat.le_of_lt h1) h2
theorem mv_bound {c : Core} (hm : Mach c.rows) {q : Rat} {μ : Nat → Rat} (hμ : Moves c q μ) (hk : ∀ r ∈ c.rows, ∀ x ∈ r.nums, sz 200 x) (hS : ∀ i, i < c.rows.length → sz 200 (c.stood i)) : ∀ j, j ≤ c.rows.length → ∀ d ∈ ordN c.rows j, fb (q.den * pG c.rows c.stood (ordN c.rows j)) (q.num.natAbs * pG c.rows c.stood (ordN c.rows j) * (2 ^ 200) ^ j) (μ d) := by
  intro j
  induction j with
  | zero => intro _ d hd; cases hd
  | succ j ih =>
    intro hj d hd
    obtain ⟨o1, o2, o3⟩ := ordN_ok hm j (by omega)
    obtain ⟨a, l, hc⟩ := List.exists_cons_of_ne_nil (rdy_some hm o2 o3 (by omega))
    have ho : ordN c.rows (j + 1) = ordN c.rows j ++ [a] := by
      show ordN c.rows j ++ _ = _
      rw [hc]; rfl
    have ha : a ∈ rdy c.rows (ordN c.rows j) := by rw [hc]; simp
    obtain ⟨ha1, ha2, ha3⟩ := mem_rdy.mp ha
    have ih := ih (by omega)
    rw [ho, pG_app]
    obtain ⟨P, hP⟩ : ∃ P, P = pG c.rows c.stood (ordN c.rows j) := ⟨_, rfl⟩
    obtain ⟨g, hg⟩ : ∃ g, g = gF c.rows c.stood a := ⟨_, rfl⟩
    have hPp : 0 < P := hP ▸ pG_pos _ _ _
    have hgp : 0 < g := hg ▸ gF_pos _ _ _
    rw [← hP] at ih ⊢
    rw [← hg]
    have hQ := q.den_pos
    rw [Nat.pow_succ]
    obtain ⟨V, hV⟩ : ∃ V : Nat, V = (2 ^ 200) ^ j := ⟨_, rfl⟩
    have hVp : 0 < V := hV ▸ Nat.pow_pos (Nat.pow_pos (by decide))
    rw [← hV] at ih ⊢
    obtain ⟨W, hW⟩ : ∃ W : Nat, W = 2 ^ 200 := ⟨_, rfl⟩
    have hW2 : 2 ≤ W := by rw [hW]; decide
    rw [← hW]
    have up : ∀ {M : Nat} {x : Rat}, fb (q.den * P) M x → M * g ≤ q.num.natAbs * (P * g) * (V * W) → fb (q.den * (P * g)) (q.num.natAbs * (P * g) * (V * W)) x := fun {M x} h hM => by
      have := (h.lift g hgp).mono hM
      rwa [Nat.mul_assoc] at this
    rw [ho] at hd
    rcases List.mem_append.mp hd with h | h
    · refine up (ih d h) ?_
      calc q.num.natAbs * P * V * g = q.num.natAbs * (P * g) * (V * 1) := by grind
        _ ≤ q.num.natAbs * (P * g) * (V * W) := Nat.mul_le_mul_left _ (Nat.mul_le_mul_left _ (by omega))
    · have e : d = a := List.mem_singleton.mp h
      subst e
      rw [hμ.of_ d ha1]
      split
      · refine fb.mono (fb.zero (Nat.mul_pos hQ (Nat.mul_pos hPp hgp))) (Nat.zero_le _)
      · have mem := List.mem_of_getElem? (hm.at ha1)
        have hdr := ha3
        unfold drvs at hdr
        have whl := hm.whl d
        have hk := hk _ mem
        have eg : g = gF c.rows c.stood d := hg
        unfold gF at eg
        revert hdr whl hk eg
        cases hr : c.rows.getD d default with
        | source s =>
          intro _ _ _ eg
          have eg : g = 1 := eg
          show fb _ _ q
          have := (fb.self q).lift (P * g) (Nat.mul_pos hPp hgp)
          refine this.mono ?_
          calc q.num.natAbs * (P * g) = q.num.natAbs * (P * g) * 1 := by omega
            _ ≤ q.num.natAbs * (P * g) * (V * W) := Nat.mul_le_mul_left _ (Nat.mul_pos hVp (by omega))
        | gear s k x =>
          intro hdr _ hk eg
          have eg : g = k.den := eg
          have hkx := hk k (by simp [MRow.nums])
          have := (ih x (hdr x (by simp [MRow.drv]))).mul (fb.self k)
          rw [← eg, Nat.mul_assoc] at this
          show fb _ _ (k * μ x)
          rw [Rat.mul_comm]
          refine this.mono ?_
          have h1 : k.num.natAbs ≤ W := by rw [hW]; exact Nat.le_of_lt hkx.1
          calc q.num.natAbs * P * V * k.num.natAbs ≤ q.num.natAbs * P * V * W := Nat.mul_le_mul_left _ h1
            _ = q.num.natAbs * P * V * W * 1 := by omega
            _ ≤ q.num.natAbs * P * V * W * g := Nat.mul_le_mul_left _ hgp
            _ = _ := by grind
        | adder s x y =>
          intro hdr _ _ eg
          have eg : g = 1 := eg
          have := (ih x (hdr x (by simp [MRow.drv]))).add (ih y (hdr y (by simp [MRow.drv])))
          show fb _ _ (μ x + μ y)
          refine up this ?_
          calc (q.num.natAbs * P * V + q.num.natAbs * P * V) * g = q.num.natAbs * (P * g) * (V * 2) := by grind
            _ ≤ q.num.natAbs * (P * g) * (V * W) := Nat.mul_le_mul_left _ (Nat.mul_le_mul_left _ hW2)
        | disc s w x =>
          intro hdr whl _ eg
          have eg : g = (c.stood w).den := eg
          have hwl := whl s w x (by rw [hm.at ha1, hr])
          have hkx := hS w hwl
          have := (ih x (hdr x (by simp [MRow.drv]))).mul (fb.self (c.stood w))
          rw [← eg, Nat.mul_assoc] at this
          show fb _ _ (c.stood w * μ x)
          rw [Rat.mul_comm]
          refine this.mono ?_
          have h1 : (c.stood w).num.natAbs ≤ W := by rw [hW]; exact Nat.le_of_lt hkx.1
          calc q.num.natAbs * P * V * (c.stood w).num.natAbs ≤ q.num.natAbs * P * V * W := Nat.mul_le_mul_left _ h1
            _ = q.num.natAbs * P * V * W * 1 := by omega
            _ ≤ q.num.natAbs * P * V * W * g := Nat.mul_le_mul_left _ hgp
            _ = _ := by grind
/-- what a bench keeps is small; B: how far off the sums are from where all stand -/
structure BOK (B : Nat) (c : Core) : Prop where
  mach : Mach c.rows
  len : c.rows.length ≤ 12
  nums : ∀ r ∈ c.rows, ∀ x ∈ r.nums, sz 200 x
  std : ∀ i, i < c.rows.length → sz 200 (c.stood i)
  lim : ∀ i, i < c.rows.length → ∀ a, (c.lims i).1 = some a ∨ (c.lims i).2 = some a → sz 200 a
  off : ∃ o : Nat → Rat, (∀ i, i < c.rows.length → sz B (o i)) ∧ ∀ i, i < c.rows.length → c.sums i = c.stood i - o i
theorem BOK.mv {B : Nat} {c : Core} (h : BOK B c) {q : Rat} (hq : sz 250 q) {μ : Nat → Rat} (hμ : Moves c q μ) : ∀ i, i < c.rows.length → zd 5300 2660 (μ i) := fun i hi => by
  have hm := h.mach
  have b := mv_bound hm hμ h.nums h.std c.rows.length (Nat.le_refl _) i (rdy_all hm (rdy_end hm) i hi)
  obtain ⟨o1, _, _⟩ := ordN_ok hm c.rows.length (Nat.le_refl _)
  have pl := pG_lt (m := c.rows) (S := c.stood) (e := 200) (ordN c.rows c.rows.length) fun x hx => by
    have hx := (ordN_ok hm c.rows.length (Nat.le_refl _)).2.2 x hx
    have mem := List.mem_of_getElem? (hm.at hx)
    have hk := h.nums _ mem
    have whl := hm.whl x
    unfold gF
    revert hk whl
    cases hr : c.rows.getD x default with
    | gear s k d => intro hk _; exact (hk k (by simp [MRow.nums])).2
    | disc s w d => intro _ whl; exact (h.std w (whl s w d (by rw [hm.at hx, hr]))).2
    | source s => intro _ _; show 1 < 2 ^ 200; decide
    | adder s a b => intro _ _; show 1 < 2 ^ 200; decide
  rw [o1] at pl
  have hl := h.len
  have pl : pG c.rows c.stood (ordN c.rows c.rows.length) ≤ 2 ^ 2400 := Nat.le_trans pl (Nat.pow_le_pow_right (by omega) (by omega))
  have v : (2 ^ 200) ^ c.rows.length ≤ 2 ^ 2400 := by rw [← Nat.pow_mul]; exact Nat.pow_le_pow_right (by omega) (by omega)
  obtain ⟨b1, b2⟩ := b.le
  constructor
  · refine Nat.lt_of_le_of_lt b2 (Nat.lt_of_le_of_lt (Nat.mul_le_mul (Nat.mul_le_mul (Nat.le_of_lt hq.1) pl) v) ?_)
    rw [← Nat.pow_add, ← Nat.pow_add]
    exact Nat.pow_lt_pow_right (by omega) (by omega)
  · refine Nat.lt_of_le_of_lt b1 (Nat.lt_of_le_of_lt (Nat.mul_le_mul (Nat.le_of_lt hq.2) pl) ?_)
    rw [← Nat.pow_add]
    exact Nat.pow_lt_pow_right (by omega) (by omega)
theorem BOK.sum {B : Nat} {c : Core} (h : BOK B c) {i : Nat} (hi : i < c.rows.length) : sz (200 + B + 1) (c.sums i) := by
  obtain ⟨o, h1, h2⟩ := h.off
  rw [h2 i hi]
  exact sz_sub (h.std i hi) (h1 i hi)
theorem not_long {x : Rat} (h : longB x = false) : sz 200 x := by
  unfold longB at h
  rw [Bool.or_eq_false_iff, decide_eq_false_iff_not, decide_eq_false_iff_not] at h
  have : (10 : Nat) ^ 60 ≤ 2 ^ 200 := by decide
  exact ⟨by omega, by omega⟩
theorem BOK.clicked {B : Nat} {c : Core} (h : BOK B c) {μ : Nat → Rat} (hl : ∀ i, i < c.rows.length → longB (c.stood i + μ i) = false) : BOK B (c.clicked μ) := by
  obtain ⟨o, h1, h2⟩ := h.off
  refine ⟨h.mach, h.len, h.nums, fun i hi => not_long (hl i hi), h.lim, o, h1, fun i hi => ?_⟩
  show c.sums i + μ i = c.stood i + μ i - o i
  rw [h2 i hi]
  grind
end Ow


namespace Ow
open PySem PySem.Spec PySem.SeqAt PyProof.Rows L2
section
variable {σ : List D}
end
def Core.setOut (c : Core) (i : Nat) (b : Bool) : Core := { c with outs := fun x => if x = i then b else c.outs x }
def Core.setStood (c : Core) (i : Nat) (q : Rat) : Core := { c with stood := fun x => if x = i then q else c.stood x }
def Core.setLim (c : Core) (i : Nat) (l : Option Rat × Option Rat) : Core := { c with lims := fun x => if x = i then l else c.lims x }
def Core.setRow (c : Core) (i : Nat) (r : MRow) : Core := { c with rows := c.rows.set i r }
section
variable (c : Core) (p : List D)
end
inductive Dd where
  | click (q : Rat) | out (i : Nat) | into (i : Nat) | put (i : Nat) (q : Rat) | gear (i : Nat) (q : Rat) | ends (i : Nat) (l : Option Rat × Option Rat)
/-- the first shaft that would stand beyond its ends -/
def stopAt (c : Core) (μ : Nat → Rat) : Option Nat := (List.range c.rows.length).find? fun i => beyondB (c.lims i) (c.stood i + μ i)
def tooFar (c : Core) (μ : Nat → Rat) : Bool := (List.range c.rows.length).any fun i => longB (c.stood i + μ i)
def stopR (i : Nat) : D := .tup [.str "Stopped", .int i]
def refR (x : Str) : D := .tup [.str x]
def toldR (d : D) : D := .tup [.str "told", d]
/-- what a deed brings: what is told, and the bench behind it where it was done -/
def run (c : Core) (μ : Nat → Rat) : Dd → D × Option Core
  | .click _ => match stopAt c μ with
    | some i => (stopR i, none)
    | none => if tooFar c μ = true then (refR "TooFar", none) else (toldR (encS (tl μ c.rows.length)), some (c.clicked μ))
  | .out i => if c.outs i = true then (refR "Held", none) else (toldR .non, some (c.setOut i true))
  | .into i => if c.outs i = true then (toldR .non, some (c.setOut i false)) else (refR "Held", none)
  | .put i q => if c.outs i = true then (if beyondB (c.lims i) q = true then (stopR i, none) else (toldR .non, some (c.setStood i q))) else (refR "Held", none)
  | .gear i q => match c.rows.getD i default with
    | .gear s _ d => (toldR .non, some (c.setRow i (.gear s q d)))
    | _ => (refR "NoGear", none)
  | .ends i l => if beyondB l (c.stood i) = true then (stopR i, none) else (toldR .non, some (c.setLim i l))
/-- a deed that can be said -/
def Dd.ok (c : Core) : Dd → Prop
  | .click q => sz 250 q
  | .out i => i < c.rows.length
  | .into i => i < c.rows.length
  | .put i q => i < c.rows.length ∧ sz 25 q
  | .gear i q => i < c.rows.length ∧ sz 200 q
  | .ends i l => i < c.rows.length ∧ ∀ a, l.1 = some a ∨ l.2 = some a → sz 200 a
end Ow


namespace Ow
open PySem PySem.Spec PySem.SeqAt PyProof.Rows L2
end Ow


namespace Ow
open PySem PySem.Spec PySem.SeqAt PyProof.Rows L2
/-- what drives a row, rising, each once -/
def sdr (r : MRow) : List Nat := match r.drv with
  | [a, b] => if a < b then [a, b] else if b < a then [b, a] else [a]
  | l => l
theorem sdr_mem (r : MRow) (x : Nat) : x ∈ sdr r ↔ x ∈ r.drv := by
  cases r with
  | adder s a b =>
    show x ∈ (if a < b then [a, b] else if b < a then [b, a] else [a]) ↔ x ∈ [a, b]
    split
    · exact Iff.rfl
    · split
      · simp [or_comm]
      · have : a = b := by omega
        subst this; simp
  | _ => exact Iff.rfl
/-- how many of a row's drives don't stand -/
def wtK (m : List MRow) (st : List Nat) (k : Nat) : Nat := ((sdr (m.getD k default)).filter fun d => !decide (d ∈ st)).length
/-- what a shaft drives -/
def bhK (m : List MRow) (d : Nat) : List Nat := (List.range m.length).filter fun k => decide (d ∈ drvs m k)
theorem mem_bhK {m : List MRow} {d k : Nat} : k ∈ bhK m d ↔ k < m.length ∧ d ∈ drvs m k := by
  unfold bhK
  rw [List.mem_filter, List.mem_range, decide_eq_true_eq]
theorem bhK_nd (m : List MRow) (d : Nat) : (bhK m d).Nodup := List.nodup_range.sublist List.filter_sublist
theorem wtK_0 {m : List MRow} {st : List Nat} {k : Nat} : wtK m st k = 0 ↔ ∀ d ∈ drvs m k, d ∈ st := by
  unfold wtK drvs
  rw [List.length_eq_zero_iff, List.filter_eq_nil_iff]
  constructor
  · intro h d hd
    have := h d ((sdr_mem _ d).mpr hd)
    simpa using this
  · intro h d hd
    simpa using h d ((sdr_mem _ d).mp hd)
/-- what may stand next -/
def RdyL (m : List MRow) (st R : List Nat) : Prop := R.Nodup ∧ ∀ x, x ∈ R ↔ x ∈ rdy m st
theorem RdyL.next {m : List MRow} {st R : List Nat} {s : Nat} (h : RdyL m st R) (hs : s ∈ rdy m st) (cl : ∀ i ∈ st, ∀ d ∈ drvs m i, d ∈ st) : RdyL m (st ++ [s]) (R.erase s ++ (bhK m s).filter fun k => decide (wtK m (st ++ [s]) k = 0)) := by
  obtain ⟨nd, mem⟩ := h
  obtain ⟨s1, s2, s3⟩ := mem_rdy.mp hs
  have mE : ∀ x, x ∈ R.erase s ↔ x ≠ s ∧ x ∈ R := fun x => nd.mem_erase_iff
  have mB : ∀ x, x ∈ ((bhK m s).filter fun k => decide (wtK m (st ++ [s]) k = 0)) ↔ x < m.length ∧ s ∈ drvs m x ∧ ∀ d ∈ drvs m x, d ∈ st ++ [s] := fun x => by
    rw [List.mem_filter, mem_bhK, decide_eq_true_eq, wtK_0]
    exact ⟨fun ⟨⟨a, b⟩, c⟩ => ⟨a, b, c⟩, fun ⟨a, b, c⟩ => ⟨⟨a, b⟩, c⟩⟩
  refine ⟨List.nodup_append.mpr ⟨nd.erase s, (bhK_nd m s).sublist List.filter_sublist, fun a ha b hb e => ?_⟩, fun x => ?_⟩
  · subst e
    have h1 := (mem a).mp ((mE a).mp ha).2
    have h2 := (mB a).mp hb
    exact s2 ((mem_rdy.mp h1).2.2 s h2.2.1)
  · rw [List.mem_append, mE, mB, mem_rdy]
    constructor
    · rintro (⟨a, b⟩ | ⟨a, b, c⟩)
      · obtain ⟨b1, b2, b3⟩ := mem_rdy.mp ((mem x).mp b)
        exact ⟨b1, by simp [b2, a], fun d hd => List.mem_append_left _ (b3 d hd)⟩
      · refine ⟨a, ?_, c⟩
        intro z
        rcases List.mem_append.mp z with z | z
        · exact s2 (cl x z s b)
        · rw [List.mem_singleton.mp z] at b
          exact s2 (s3 s b)
    · rintro ⟨a, b, c⟩
      by_cases z : s ∈ drvs m x
      · exact .inr ⟨a, z, c⟩
      · refine .inl ⟨fun e => b (by rw [e]; simp), (mem x).mpr (mem_rdy.mpr ⟨a, fun q => b (List.mem_append_left _ q), fun d hd => ?_⟩)⟩
        rcases List.mem_append.mp (c d hd) with q | q
        · exact q
        · rw [List.mem_singleton.mp q] at hd; exact absurd hd z
end Ow


namespace Ow
open PySem PySem.Spec PySem.SeqAt PyProof.Rows L2
end Ow


namespace Ow
open PySem PySem.Spec PySem.SeqAt PyProof.Rows L2
/-- the text of these signs -/
def tx (a : List Nat) : D := .str (SX.S a)
/-- signs that Python knows -/
def okT (a : List Nat) : Prop := ∀ c ∈ a, c < 1114112
theorem lcN {n : Nat} (h : n ≤ 10000) : n ≤ sizeLine := by rw [sizeLine_eq]; omega
theorem okT.ok {a : List Nat} (h : okT a) : PyData.strOk (SX.S a) = true := by
  show (SX.S a).cps.all (· < 0x110000) = true
  rw [← Array.all_toList]
  exact List.all_eq_true.mpr fun c hc => decide_eq_true (h c hc)
theorem okT.sub {a b : List Nat} (h : okT b) (s : ∀ c ∈ a, c ∈ b) : okT a := fun c hc => h c (s c hc)
theorem tx_cat {a b : List Nat} (h : a.length + b.length ≤ 10000) : dCatS (tx a) (tx b) = some (tx (a ++ b)) := by
  show (if (SX.S a).length + (SX.S b).length ≤ sizeLine then some (D.str (SX.S a ++ SX.S b)) else none) = _
  rw [SX.S_len, SX.S_len, if_pos (lcN h), SX.S_cat]
  rfl
/-- what stands ahead of a sign, the sign, what stands behind -/
def prt (c : Nat) (a : List Nat) : List Nat × List Nat × List Nat := match a with
  | [] => ([], [], [])
  | x :: l => if x = c then ([], [c], l) else (x :: (prt c l).1, (prt c l).2)
/-- a whole number's figures -/
def intL : Int → List Nat
  | .ofNat n => TL.numL n
  | .negSucc n => 45 :: TL.numL (n + 1)
theorem str_int (i : Int) : (Str.ofString (toString i)) = SX.S (intL i) := by
  cases i with
  | ofNat n => exact SX.num_S n
  | negSucc n =>
    refine TL.ext_tl ?_
    rw [TL.tl_ofString]
    have e := TL.tl_num (n + 1)
    rw [TL.tl_ofString] at e
    show (toString (Int.negSucc n)).toList.map Char.toNat = 45 :: TL.numL (n + 1)
    rw [← e]
    show ("-" ++ toString ((n + 1 : Nat) : Int)).toList.map Char.toNat = _
    rw [String.toList_append, List.map_append]
    rfl
theorem tx_int {i : Int} (h : i.natAbs.log2 < 1920) : fStrI [.int i] = some (tx (intL i)) := by
  show (if i.natAbs.log2 < 1920 then some (D.str (Str.ofString (toString i))) else none) = _
  rw [if_pos h, str_int]
  rfl
section
variable {σ : List D}
end
def dg (c : Nat) : Bool := decide (48 ≤ c ∧ c ≤ 57)
def figs (l : List Nat) : Bool := decide (1 ≤ l.length ∧ l.length ≤ 60) && l.all dg && (decide (l = [48]) || !decide (l.head? = some 48))
def figV (l : List Nat) : Int := ((PySem.NumText.digitsVal l : Nat) : Int)
def isNeg (top : List Nat) : Bool := decide (top.take 1 = [45])
def bare (top : List Nat) : List Nat := if isNeg top = true then top.drop 1 else top
/-- a number as a text -/
def showL (r : Rat) : List Nat := intL r.num ++ if r.den = 1 then [] else 47 :: TL.numL r.den
theorem intL_len {i : Int} (h : i.natAbs < 10 ^ 60) : (intL i).length ≤ 61 := by
  cases i with
  | ofNat n =>
    have := TL.numL_len (n := n) (k := 60) (by decide) h
    exact Nat.le_succ_of_le this
  | negSucc n =>
    have := TL.numL_len (n := n + 1) (k := 60) (by decide) h
    exact Nat.succ_le_succ this
theorem log_60 {n : Nat} (h : n < 10 ^ 60) : n.log2 < 1920 := by
  by_cases h0 : n = 0
  · subst h0; decide
  · exact (Nat.log2_lt h0).mpr (Nat.lt_of_lt_of_le h (by decide +kernel))
/-- what stands behind the top -/
def tailL (r : Rat) : List Nat := if r.den = 1 then [] else 47 :: TL.numL r.den
structure Shown (r : Rat) : Prop where
  f1 : fStrI [.int r.num] = some (tx (intL r.num))
  f2 : fStrI [.int (r.den : Int)] = some (tx (TL.numL r.den))
  c1 : dCatS (tx [47]) (tx (TL.numL r.den)) = some (tx (47 :: TL.numL r.den))
  pk : dIx (.lst [tx (47 :: TL.numL r.den), tx []]) (.int (if decide ((r.den : Int) = 1) = true then 1 else 0)) = some (tx (tailL r))
  c2 : dCatS (tx (intL r.num)) (tx (tailL r)) = some (tx (showL r))
theorem shown {r : Rat} (h1 : r.num.natAbs < 10 ^ 60) (h2 : r.den < 10 ^ 60) : Shown r := by
  have l1 := intL_len h1
  have l2 := TL.numL_len (n := r.den) (k := 60) (by decide) h2
  refine ⟨tx_int (log_60 h1), tx_int (i := (r.den : Int)) (log_60 h2), tx_cat (by simp; omega), ?_, ?_⟩
  · unfold tailL
    by_cases hd : r.den = 1
    · have hd2 : (r.den : Int) = 1 := by omega
      rw [if_pos (decide_eq_true hd2), if_pos hd]
      exact ix_lN (n := 1) rfl
    · have hd2 : ¬ (r.den : Int) = 1 := by omega
      rw [if_neg (by rw [decide_eq_false hd2]; decide), if_neg hd]
      exact ix_l0
  · refine tx_cat ?_
    unfold tailL
    split
    · simp; omega
    · simp; omega
end Ow


namespace Ow
open PySem PySem.Spec PySem.SeqAt PyProof.Rows L2
def ltr (w : List Nat) : List Nat × List Nat × List Nat := prt 94 (w.drop 1)
def kLtr (w : List Nat) : Int := figV (ltr w).1
def pwr (w : List Nat) : Int := if (ltr w).2.1 = [] then 1 else figV (ltr w).2.2
def okW (n : Nat) (last : Int) (w : List Nat) : Bool := decide (w.take 1 = [120]) && figs (ltr w).1 && (decide ((ltr w).2.1 = []) || figs (ltr w).2.2) && decide (last < kLtr w) && decide (kLtr w < n) && (decide ((ltr w).2.1 = []) || decide (2 ≤ pwr w))
def putW (w : List Nat) (st : Int × List Int) : Int × List Int := (kLtr w, st.2.set (kLtr w).toNat (pwr w))
structure LInv (n : Nat) (st : Int × List Int) : Prop where
  len : st.2.length = n
  lo : -1 ≤ st.1
  hi : st.1 < n
  zero : ∀ i : Nat, st.1 < i → st.2.getD i 0 = 0
  at_ : ∀ i : Nat, st.1 = i → st.2.getD i 0 ≠ 0
  nn : ∀ a ∈ st.2, 0 ≤ a
theorem figV_nn (l : List Nat) : 0 ≤ figV l := Int.natCast_nonneg _
theorem okW_parts {n : Nat} {last : Int} {w : List Nat} (h : okW n last w = true) : w.take 1 = [120] ∧ figs (ltr w).1 = true ∧ ((ltr w).2.1 = [] ∨ figs (ltr w).2.2 = true) ∧ last < kLtr w ∧ kLtr w < n ∧ ((ltr w).2.1 = [] ∨ 2 ≤ pwr w) := by
  unfold okW at h
  simp only [Bool.and_eq_true, Bool.or_eq_true, decide_eq_true_eq] at h
  exact ⟨h.1.1.1.1.1, h.1.1.1.1.2, h.1.1.1.2, h.1.1.2, h.1.2, h.2⟩
theorem pwr_pos {n : Nat} {last : Int} {w : List Nat} (h : okW n last w = true) : 1 ≤ pwr w := by
  obtain ⟨_, _, _, _, _, h6⟩ := okW_parts h
  rcases h6 with e | e
  · unfold pwr
    rw [if_pos e]
    decide
  · omega
theorem LInv.put {n : Nat} {st : Int × List Int} {w : List Nat} (v : LInv n st) (h : okW n st.1 w = true) : LInv n (putW w st) := by
  obtain ⟨_, _, _, h4, h5, _⟩ := okW_parts h
  have hp := pwr_pos h
  have k0 : 0 ≤ kLtr w := figV_nn _
  obtain ⟨k, hk⟩ : ∃ k : Nat, kLtr w = k := ⟨(kLtr w).toNat, by omega⟩
  have hl := v.len
  refine ⟨by unfold putW; rw [List.length_set]; exact hl, by show -1 ≤ kLtr w; omega, h5, fun i hi => ?_, fun i hi => ?_, fun a ha => ?_⟩
  · have hi : kLtr w < i := hi
    unfold putW
    dsimp only
    rw [hk, Int.toNat_natCast]
    have ne : k ≠ i := by omega
    rw [List.getD_eq_getElem?_getD, List.getElem?_set_ne ne, ← List.getD_eq_getElem?_getD]
    exact v.zero i (by omega)
  · have hi : kLtr w = i := hi
    unfold putW
    dsimp only
    rw [hi, Int.toNat_natCast, List.getD_eq_getElem?_getD, List.getElem?_set_self (by omega)]
    show pwr w ≠ 0
    omega
  · rcases List.mem_or_eq_of_mem_set ha with z | z
    · exact v.nn a z
    · omega
theorem LInv.start {n : Nat} (h : 0 < n) : LInv n (-1, List.replicate n 0) := by
  refine ⟨List.length_replicate, by show (-1 : Int) ≤ -1; omega, by show (-1 : Int) < n; omega, fun i _ => ?_, fun i hi => by have : (-1 : Int) = i := hi; omega, fun a ha => by rw [List.eq_of_mem_replicate ha]; decide⟩
  rw [List.getD_eq_getElem?_getD, List.getElem?_replicate]
  split <;> rfl
/-- all zero from a place on, just where the last one stands ahead -/
theorem LInv.any {n : Nat} {st : Int × List Int} (v : LInv n st) {k : Nat} (hk : k < n) : (st.2.drop k).any (fun a => a != 0) = !decide (st.1 < k) := by
  by_cases h : st.1 < k
  · rw [decide_eq_true h]
    show _ = false
    rw [List.any_eq_false]
    intro a ha
    obtain ⟨i, hi⟩ := List.getElem?_of_mem ha
    rw [List.getElem?_drop] at hi
    have := v.zero (k + i) (by omega)
    rw [List.getD_eq_getElem?_getD, hi] at this
    have : a = 0 := this
    rw [this]
    decide
  · rw [decide_eq_false h]
    show _ = true
    obtain ⟨m, hm⟩ : ∃ m : Nat, st.1 = m := ⟨st.1.toNat, by omega⟩
    have ne := v.at_ m hm
    have hlt : m < st.2.length := by have := v.hi; have := v.len; omega
    have e : st.2[m]? = some st.2[m] := List.getElem?_eq_getElem hlt
    rw [List.getD_eq_getElem?_getD, e] at ne
    have ne : st.2[m] ≠ 0 := ne
    refine List.any_eq_true.mpr ⟨st.2[m], ?_, by simpa using ne⟩
    refine List.mem_of_getElem? (i := m - k) ?_
    rw [List.getElem?_drop, show k + (m - k) = m by omega]
    exact e
theorem forL_n {T : Tg} {G : List D → SO} {d : D} {ds σ σ1 σ2 : List D} (h : bindT T d σ = some σ1) (e : G σ1 = .nxt σ2) : forL T G (d :: ds) σ = forL T G ds σ2 := by
  rw [forL, h]
  dsimp only
  rw [e]
end Ow


namespace Ow
open PySem PySem.Spec PySem.SeqAt PyProof.Rows L2
mutual
/-- the parts, one by one -/
def D.wt : D → Nat
  | .tup ds => 1 + D.wts ds
  | .lst ds => 1 + D.wts ds
  | .non => 1
  | .bl _ => 1
  | .int _ => 1
  | .str _ => 1
  | .dK _ => 1
  | .dT _ => 1
  | .ins _ _ => 1
  | .fzl _ => 1
  | .exn _ _ => 1
def D.wts : List D → Nat
  | [] => 0
  | d :: ds => d.wt + D.wts ds
end
end Ow


namespace Ow
open PySem PySem.Spec PySem.SeqAt PyProof.Rows L2
end Ow


namespace Ow
open PySem PySem.Spec PySem.SeqAt PyProof.Rows L2
def ft : Nat → Nat
  | 0 => 1
  | k + 1 => (k + 1) * ft k
theorem even_src {m : List MRow} (he : evenB m = true) {i : Nat} (hi : i < m.length) {s : Rat} {w d : Nat} (hr : m.getD i default = .disc s w d) : (m.getD d default).isSrc = true := by
  have h := List.all_eq_true.mp he i (List.mem_filter.mpr ⟨List.mem_range.mpr hi, by rw [hr]; rfl⟩)
  rw [hr] at h
  exact h
theorem turn_src {m : List MRow} {T : Nat → Nat → Rat} (hT : Turn m T) {d : Nat} (hd : d < m.length) (hs : (m.getD d default).isSrc = true) {k : Nat} (hk : 0 < k) : T d k = if k = 1 then 1 else 0 := by
  rw [hT.step d k hd hk]
  cases e : m.getD d default with
  | source s => rfl
  | _ => rw [e] at hs; cases hs
theorem af_src {f g : Nat → Rat} {k : Nat} (hg : ∀ j, 0 < j → g j = if j = 1 then 1 else 0) : af f g (k + 1) (k + 1) = f k := by
  have z : ∀ j, j ≤ k → sumF (fun i => (((k + 1 - i : Nat) : Int) : Rat) * (f i * g (k + 1 - i))) j = 0 := fun j => by
    induction j with
    | zero => intro _; rfl
    | succ j ih =>
      intro hj
      show sumF _ j + (((k + 1 - j : Nat) : Int) : Rat) * (f j * g (k + 1 - j)) = 0
      rw [ih (by omega), hg _ (by omega), if_neg (by omega)]
      grind
  show sumF _ k + (((k + 1 - k : Nat) : Int) : Rat) * (f k * g (k + 1 - k)) = f k
  rw [z k (Nat.le_refl _), show k + 1 - k = 1 by omega, hg 1 (by omega), if_pos rfl]
  show 0 + ((1 : Int) : Rat) * (f k * 1) = f k
  grind
theorem disc_term {m : List MRow} (hm : Mach m) (he : evenB m = true) {T : Nat → Nat → Rat} (hT : Turn m T) {i : Nat} (hi : i < m.length) {s : Rat} {w d : Nat} (hr : m.getD i default = .disc s w d) (k : Nat) : T i (k + 1) = T w k / (((k + 1 : Nat) : Int) : Rat) := by
  obtain ⟨rk, hrk⟩ := hm.rk
  have hd : d < m.length := (hrk i _ (hm.at hi) d (by rw [hr]; simp [MRow.drv])).1
  rw [hT.step i (k + 1) hi (Nat.succ_pos _), hr]
  show af (T w) (T d) (k + 1) (k + 1) / _ = _
  rw [af_src fun j hj => turn_src hT hd (even_src he hi hr) hj]
end Ow


namespace Ow
open PySem PySem.Spec PySem.SeqAt PyProof.Rows L2
section
variable (l h : Nat → Nat → Rat)
end
end Ow


namespace Ow
open PySem PySem.Spec PySem.SeqAt PyProof.Rows L2
end Ow


namespace Ow
open PySem PySem.Spec PySem.SeqAt PyProof.Rows L2
/-- a matrix without its first row and a column -/
def skp (j b : Nat) : Nat := if b < j then b else b + 1
def sg : Nat → Rat
  | 0 => 1
  | n + 1 => - sg n
def dt : Nat → (Nat → Nat → Rat) → Rat
  | 0, _ => 1
  | n + 1, A => sumF (fun j => sg j * A 0 j * dt n fun a b => A (a + 1) (skp j b)) (n + 1)
theorem skp_lt {j b n : Nat} (hj : j < n + 1) (hb : b < n) : skp j b < n + 1 := by unfold skp; split <;> omega
theorem dt_congr : ∀ {n : Nat} {A B : Nat → Nat → Rat}, (∀ i j, i < n → j < n → A i j = B i j) → dt n A = dt n B
  | 0, _, _, _ => rfl
  | n + 1, A, B, h => sumF_congr fun j hj => by
    rw [h 0 j (by omega) hj, dt_congr fun a b ha hb => h (a + 1) (skp j b) (by omega) (skp_lt hj hb)]
/-- a row put in a matrix -/
def stR (A : Nat → Nat → Rat) (i : Nat) (u : Nat → Rat) : Nat → Nat → Rat := fun a b => if a = i then u b else A a b
theorem dt_lin : ∀ {n i : Nat} {A : Nat → Nat → Rat} {u v : Nat → Rat} (c : Rat), i < n → dt n (stR A i fun b => u b + c * v b) = dt n (stR A i u) + c * dt n (stR A i v)
  | n + 1, 0, A, u, v, c, _ => by
    show sumF _ _ = sumF _ _ + c * sumF _ _
    rw [← sumF_mul, ← sumF_add]
    refine sumF_congr fun j hj => ?_
    have e : ∀ w : Nat → Rat, (dt n fun a b => stR A 0 w (a + 1) (skp j b)) = dt n fun a b => A (a + 1) (skp j b) := fun w => rfl
    rw [e, e, e]
    show sg j * (u j + c * v j) * _ = sg j * u j * _ + c * (sg j * v j * _)
    grind
  | n + 1, i + 1, A, u, v, c, h => by
    show sumF _ _ = sumF _ _ + c * sumF _ _
    rw [← sumF_mul, ← sumF_add]
    refine sumF_congr fun j hj => ?_
    have e : ∀ w : Nat → Rat, (dt n fun a b => stR A (i + 1) w (a + 1) (skp j b)) = dt n (stR (fun a b => A (a + 1) (skp j b)) i fun b => w (skp j b)) := fun w => dt_congr fun a b _ _ => by
      unfold stR
      by_cases z : a = i
      · rw [if_pos z, if_pos (by omega)]
      · rw [if_neg z, if_neg (by omega)]
    have e0 : ∀ w : Nat → Rat, stR A (i + 1) w 0 j = A 0 j := fun w => if_neg (by omega)
    rw [e, e, e, e0, e0, e0, dt_lin (n := n) (i := i) (u := fun b => u (skp j b)) (v := fun b => v (skp j b)) c (by omega)]
    grind
theorem sumF_neg (f : Nat → Rat) (n : Nat) : sumF (fun i => - f i) n = - sumF f n := by
  have h := sumF_mul (-1) f n
  rw [sumF_congr (g := fun i => -1 * f i) fun i _ => by grind, h]
  grind
/-- what changes its sign when turned about is together nought -/
theorem alt_zero (n : Nat) (f : Nat → Nat → Rat) (h : ∀ j l, j ≤ l → l < n + 1 → f (l + 1) j = - f j l) : sumF (fun j => sumF (fun l => f j l) (n + 1)) (n + 2) = 0 := by
  have p : ∀ j, sumF (fun l => f j l) (n + 1) = sumF (fun l => if j ≤ l then f j l else 0) (n + 1) + sumF (fun l => if j ≤ l then 0 else f j l) (n + 1) := fun j => by
    rw [← sumF_add]
    refine sumF_congr fun l _ => ?_
    split <;> grind
  rw [sumF_congr fun j _ => p j, sumF_add]
  have a : sumF (fun j => sumF (fun l => if j ≤ l then f j l else 0) (n + 1)) (n + 2) = sumF (fun j => sumF (fun l => if j ≤ l then f j l else 0) (n + 1)) (n + 1) := by
    show sumF _ (n + 1) + sumF (fun l => if n + 1 ≤ l then f (n + 1) l else 0) (n + 1) = _
    rw [sumF_congr (f := fun l => if n + 1 ≤ l then f (n + 1) l else 0) (g := fun _ => 0) fun l hl => if_neg (by omega), sumF_zero]
    grind
  have b : sumF (fun j => sumF (fun l => if j ≤ l then 0 else f j l) (n + 1)) (n + 2) = - sumF (fun j => sumF (fun l => if j ≤ l then f j l else 0) (n + 1)) (n + 1) := by
    rw [sumF_first]
    rw [sumF_congr (f := fun l => if 0 ≤ l then 0 else f 0 l) (g := fun _ => 0) fun l _ => if_pos (by omega), sumF_zero]
    rw [sumF_swap, ← sumF_neg]
    have : ∀ l, l < n + 1 → sumF (fun i => if i + 1 ≤ l then 0 else f (i + 1) l) (n + 1) = - sumF (fun i => if l ≤ i then f l i else 0) (n + 1) := fun l hl => by
      rw [← sumF_neg]
      refine sumF_congr fun i hi => ?_
      by_cases z : l ≤ i
      · rw [if_neg (by omega), if_pos z, h l i z hi]
      · rw [if_pos (by omega), if_neg z]; grind
    rw [sumF_congr this]
    grind
  rw [a, b]
  grind
theorem sg_sq (j : Nat) : sg (j + 1) = - sg j := rfl
theorem skp_skp {j l b : Nat} (h : j ≤ l) : skp (l + 1) (skp j b) = skp j (skp l b) := by
  unfold skp
  by_cases h1 : b < j <;> by_cases h2 : b < l <;> simp [h1, h2] <;> (try split) <;> (try split) <;> omega
/-- the first two rows alike -/
theorem dt_first (n : Nat) (A : Nat → Nat → Rat) (h : ∀ b, A 1 b = A 0 b) : dt (n + 2) A = 0 := by
  show sumF (fun j => sg j * A 0 j * sumF (fun l => sg l * A 1 (skp j l) * dt n fun a b => A (a + 2) (skp j (skp l b))) (n + 1)) (n + 2) = 0
  rw [sumF_congr (g := fun j => sumF (fun l => sg j * A 0 j * (sg l * A 1 (skp j l) * dt n fun a b => A (a + 2) (skp j (skp l b)))) (n + 1)) fun j _ => by rw [sumF_mul]]
  refine alt_zero n _ fun j l hjl hl => ?_
  rw [h, h, show skp (l + 1) j = j from if_pos (by omega), show skp j l = l + 1 from if_neg (by omega), dt_congr (n := n) (A := fun a b => A (a + 2) (skp (l + 1) (skp j b))) (B := fun a b => A (a + 2) (skp j (skp l b))) fun a b _ _ => by rw [skp_skp hjl], sg_sq]
  grind
/-- a row and the next one alike -/
theorem dt_next : ∀ {n i : Nat} {A : Nat → Nat → Rat}, i + 1 < n → (∀ b, A (i + 1) b = A i b) → dt n A = 0
  | n + 2, 0, A, _, h => dt_first n A h
  | n + 1, i + 1, A, hi, h => by
    show sumF _ _ = 0
    rw [sumF_congr (g := fun _ => 0) fun j _ => by rw [dt_next (n := n) (i := i) (by omega) fun b => h _]; grind, sumF_zero]
theorem stR_self (A : Nat → Nat → Rat) (i : Nat) : stR A i (A i) = A := by
  funext a b
  unfold stR
  by_cases z : a = i
  · rw [if_pos z, z]
  · rw [if_neg z]
theorem stR_comm {A : Nat → Nat → Rat} {i k : Nat} {u v : Nat → Rat} (h : i ≠ k) : stR (stR A i u) k v = stR (stR A k v) i u := by
  funext a b
  unfold stR
  by_cases z : a = i <;> by_cases y : a = k <;> simp [z, y, h] <;> omega
/-- two rows exchanged -/
def swR (A : Nat → Nat → Rat) (i k : Nat) : Nat → Nat → Rat := stR (stR A i (A k)) k (A i)
/-- where likeness of rows i and k makes nought, exchange turns the sign -/
theorem dt_sw_of {n i k : Nat} (hi : i < n) (hk : k < n) (ik : i ≠ k) (z : ∀ (A : Nat → Nat → Rat) (u : Nat → Rat), dt n (stR (stR A i u) k u) = 0) (A : Nat → Nat → Rat) : dt n (swR A i k) = - dt n A := by
  have L1 : ∀ (B : Nat → Nat → Rat) (u v : Nat → Rat), dt n (stR B i fun b => u b + 1 * v b) = dt n (stR B i u) + 1 * dt n (stR B i v) := fun B u v => dt_lin 1 hi
  have L2 : ∀ (B : Nat → Nat → Rat) (u v : Nat → Rat), dt n (stR B k fun b => u b + 1 * v b) = dt n (stR B k u) + 1 * dt n (stR B k v) := fun B u v => dt_lin 1 hk
  have e := z A fun b => A i b + 1 * A k b
  rw [L2, stR_comm ik, L1, stR_comm ik, L1, stR_comm (Ne.symm ik), z, stR_comm (Ne.symm ik), stR_comm (Ne.symm ik), ← stR_comm (i := i) (k := k) (u := A k) (v := A k) ik, z] at e
  have a : stR (stR A i (A i)) k (A k) = A := by rw [stR_self, stR_self]
  rw [a] at e
  unfold swR
  grind
theorem dt_swn {n i : Nat} (hi : i + 1 < n) (A : Nat → Nat → Rat) : dt n (swR A i (i + 1)) = - dt n A :=
  dt_sw_of (by omega) hi (by omega) (fun A u => dt_next hi fun b => by simp [stR]) A
/-- two rows alike -/
theorem dt_like : ∀ (d : Nat) {n i : Nat} {A : Nat → Nat → Rat}, i + 1 + d < n → (∀ b, A (i + 1 + d) b = A i b) → dt n A = 0
  | 0, n, i, A, h, e => dt_next h e
  | d + 1, n, i, A, h, e => by
    have s := dt_swn (n := n) (i := i) (by omega) A
    have z := dt_like d (n := n) (i := i + 1) (A := swR A i (i + 1)) (by omega) fun b => by
      unfold swR stR
      rw [if_neg (by omega), if_neg (by omega), if_pos rfl, ← e, show i + 1 + 1 + d = i + 1 + (d + 1) by omega]
    rw [z] at s
    grind
theorem dt_alike {n i k : Nat} {A : Nat → Nat → Rat} (hi : i < n) (hk : k < n) (ik : i ≠ k) (e : ∀ b, A k b = A i b) : dt n A = 0 := by
  rcases Nat.lt_or_gt_of_ne ik with h | h
  · exact dt_like (k - (i + 1)) (i := i) (by omega) (by rw [show i + 1 + (k - (i + 1)) = k by omega]; exact e)
  · exact dt_like (i - (k + 1)) (i := k) (by omega) (by rw [show k + 1 + (i - (k + 1)) = i by omega]; exact fun b => (e b).symm)
theorem dt_sw {n i k : Nat} (hi : i < n) (hk : k < n) (ik : i ≠ k) (A : Nat → Nat → Rat) : dt n (swR A i k) = - dt n A :=
  dt_sw_of hi hk ik (fun A u => dt_alike hi hk ik fun b => by simp [stR]) A
/-- a row more by a multiple of another one -/
theorem dt_plus {n i k : Nat} (hi : i < n) (hk : k < n) (ik : i ≠ k) (c : Rat) (A : Nat → Nat → Rat) : dt n (stR A i fun b => A i b + c * A k b) = dt n A := by
  rw [dt_lin c hi, stR_self, dt_alike (A := stR A i (A k)) hi hk ik fun b => by
    unfold stR
    rw [if_pos rfl, if_neg (Ne.symm ik)]]
  grind
/-- a row taken often -/
theorem dt_often {n i : Nat} (hi : i < n) (c : Rat) (A : Nat → Nat → Rat) : dt n (stR A i fun b => c * A i b) = c * dt n A := by
  have e := dt_lin (n := n) (i := i) (A := A) (u := fun b => c * A i b) (v := fun b => (-c) * A i b) 1 hi
  have e2 := dt_lin (n := n) (i := i) (A := A) (u := fun _ => 0) (v := fun b => A i b) c hi
  have e3 := dt_lin (n := n) (i := i) (A := A) (u := fun _ => 0) (v := fun _ => 0) 1 hi
  rw [show (fun b => (0 : Rat) + c * A i b) = fun b => c * A i b from funext fun b => by grind, show stR A i (fun b => A i b) = A from stR_self A i] at e2
  rw [show (fun b : Nat => (0 : Rat) + 1 * 0) = fun _ => 0 from funext fun b => by grind] at e3
  rw [e2]
  grind
/-- many rows more by multiples of one -/
theorem dt_pluss {n k : Nat} (hk : k < n) (c : Nat → Rat) (hc : c k = 0) (A : Nat → Nat → Rat) : dt n (fun a b => A a b + c a * A k b) = dt n A := by
  have p : ∀ m, m ≤ n → dt n (fun a b => if a < m then A a b + c a * A k b else A a b) = dt n A := by
    intro m
    induction m with
    | zero => intro _; rfl
    | succ m ih =>
      intro hm
      rw [← ih (by omega)]
      by_cases e : m = k
      · refine dt_congr fun a b _ _ => ?_
        by_cases z : a = m
        · subst z
          rw [if_pos (by omega), if_neg (by omega), e, hc]
          grind
        · by_cases y : a < m
          · rw [if_pos (by omega), if_pos y]
          · rw [if_neg (by omega), if_neg y]
      · refine Eq.trans (dt_congr fun a b _ _ => ?_) (dt_plus (i := m) (k := k) (by omega) hk e (c m) fun a b => if a < m then A a b + c a * A k b else A a b)
        unfold stR
        by_cases z : a = m
        · subst z
          rw [if_pos (by omega), if_pos rfl]
          show _ = (if a < a then _ else _) + c a * (if k < a then _ else _)
          rw [if_neg (by omega)]
          by_cases y : k < a
          · rw [if_pos y, hc]; grind
          · rw [if_neg y]
        · rw [if_neg z]
          show _ = if a < m then _ else _
          by_cases y : a < m
          · rw [if_pos (by omega), if_pos y]
          · rw [if_neg (by omega), if_neg y]
  rw [← p n (Nat.le_refl _)]
  exact dt_congr fun a b ha _ => by rw [if_pos ha]
/-- a column of noughts -/
theorem dt_col0 : ∀ {n : Nat} {A : Nat → Nat → Rat}, 0 < n → (∀ a, a < n → A a 0 = 0) → dt n A = 0
  | n + 1, A, _, h => by
    show sumF _ _ = 0
    rw [sumF_congr (g := fun _ => 0) fun j hj => by
      by_cases z : j = 0
      · rw [z, h 0 (by omega)]; grind
      · rw [dt_col0 (n := n) (by omega) fun a ha => by
          show A (a + 1) (skp j 0) = 0
          rw [show skp j 0 = 0 from if_pos (by omega)]
          exact h (a + 1) (by omega)]
        grind, sumF_zero]
/-- the first column is the first number alone -/
theorem dt_peel {n : Nat} {A : Nat → Nat → Rat} (h : ∀ a, a < n → A (a + 1) 0 = 0) : dt (n + 1) A = A 0 0 * dt n fun a b => A (a + 1) (b + 1) := by
  show sumF _ (n + 1) = _
  rw [sumF_first, sumF_congr (g := fun _ => 0) fun j hj => by
    rw [dt_col0 (n := n) (by omega) fun a ha => by
      show A (a + 1) (skp (j + 1) 0) = 0
      rw [show skp (j + 1) 0 = 0 from if_pos (by omega)]
      exact h a ha]
    grind, sumF_zero]
  show (1 : Rat) * A 0 0 * (dt n fun a b => A (a + 1) (skp 0 b)) + 0 = _
  rw [show (fun a b => A (a + 1) (skp 0 b)) = fun a b => A (a + 1) (b + 1) from rfl]
  grind
/-- the product of the first numbers along the slope -/
def dgP (A : Nat → Nat → Rat) : Nat → Rat
  | 0 => 1
  | k + 1 => dgP A k * A k k
theorem dgP_congr {A B : Nat → Nat → Rat} : ∀ {k : Nat}, (∀ i, i < k → A i i = B i i) → dgP A k = dgP B k
  | 0, _ => rfl
  | k + 1, h => by
    show dgP A k * A k k = dgP B k * B k k
    rw [dgP_congr fun i hi => h i (by omega), h k (by omega)]
theorem dgP_first (A : Nat → Nat → Rat) : ∀ k, dgP A (k + 1) = A 0 0 * dgP (fun a b => A (a + 1) (b + 1)) k
  | 0 => by show 1 * A 0 0 = A 0 0 * 1; grind
  | k + 1 => by
    show dgP A (k + 1) * A (k + 1) (k + 1) = A 0 0 * (dgP _ k * A (k + 1) (k + 1))
    rw [dgP_first A k]; grind
theorem dgP_ne {A : Nat → Nat → Rat} : ∀ {k : Nat}, (∀ i, i < k → A i i ≠ 0) → dgP A k ≠ 0
  | 0, _ => by show (1 : Rat) ≠ 0; decide
  | k + 1, h => by
    have a := dgP_ne (A := A) (k := k) fun i hi => h i (by omega)
    have b := h k (by omega)
    show dgP A k * A k k ≠ 0
    intro e
    rcases Rat.mul_eq_zero.mp e with e | e
    · exact a e
    · exact b e
/-- columns below the slope are noughts as far as k -/
theorem dt_peels : ∀ (k : Nat) {m : Nat} {A : Nat → Nat → Rat}, (∀ i j, j < k → j < i → i < k + m → A i j = 0) → dt (k + m) A = dgP A k * dt m fun a b => A (k + a) (k + b)
  | 0, m, A, _ => by
    show dt (0 + m) A = 1 * _
    rw [Nat.zero_add, Rat.one_mul]
    exact dt_congr fun i j _ _ => by rw [Nat.zero_add, Nat.zero_add]
  | k + 1, m, A, h => by
    rw [show k + 1 + m = k + m + 1 by omega, dt_peel fun a ha => h (a + 1) 0 (by omega) (by omega) (by omega), dt_peels k fun i j a b c => h (i + 1) (j + 1) (by omega) (by omega) (by omega), dgP_first]
    rw [dt_congr (n := m) (A := fun a b => A (k + a + 1) (k + b + 1)) (B := fun a b => A (k + 1 + a) (k + 1 + b)) fun a b _ _ => by rw [show k + a + 1 = k + 1 + a by omega, show k + b + 1 = k + 1 + b by omega]]
    grind
/-- rows led down as far as column k: M of B -/
structure El (n k : Nat) (B M : Nat → Nat → Rat) : Prop where
  same : ∀ (m : Nat) (ρ c : Nat → Nat), (∀ a, a < k → ρ a = a) → (∀ a, a < m → ρ a < n) → k ≤ m → dt m (fun a b => M (ρ a) (c b)) = dt m (fun a b => B (ρ a) (c b))
  low : ∀ i j, j < k → j < i → i < n → M i j = 0
  piv : ∀ i, i < k → M i i ≠ 0
theorem El.zero (n : Nat) (B : Nat → Nat → Rat) : El n 0 B B := ⟨fun _ _ _ _ _ _ => rfl, fun _ _ h => by omega, fun _ h => by omega⟩
/-- two rows from k on exchanged in both -/
def trp (i k a : Nat) : Nat := if a = i then k else if a = k then i else a
theorem trp_lt {i k a n : Nat} (hi : i < n) (hk : k < n) (h : a < n) : trp i k a < n := by unfold trp; split <;> (try split) <;> omega
theorem swR_trp {A : Nat → Nat → Rat} {i k : Nat} (a b : Nat) : swR A i k a b = A (trp k i a) b := by
  unfold swR stR trp
  by_cases z : a = k
  · rw [if_pos z, if_pos z]
  · rw [if_neg z, if_neg z]
    by_cases y : a = i
    · rw [if_pos y, if_pos y]
    · rw [if_neg y, if_neg y]
theorem El.swap {n k i : Nat} {B M : Nat → Nat → Rat} (h : El n k B M) (hk : k ≤ i) (hi : i < n) : El n k (swR B k i) (swR M k i) := by
  have kn : k < n := by omega
  refine ⟨fun m ρ c h1 h2 h3 => ?_, fun a b hb hab ha => ?_, fun a ha => ?_⟩
  · have e := h.same m (fun a => trp i k (ρ a)) c (fun a ha => by
      show trp i k (ρ a) = a
      rw [h1 a ha]
      unfold trp
      rw [if_neg (by omega), if_neg (by omega)]) (fun a ha => trp_lt hi kn (h2 a ha)) h3
    rw [dt_congr fun a b _ _ => swR_trp (A := M) (ρ a) (c b), dt_congr fun a b _ _ => swR_trp (A := B) (ρ a) (c b)]
    exact e
  · rw [swR_trp]
    refine h.low _ _ hb ?_ (trp_lt hi kn ha)
    unfold trp
    split <;> (try split) <;> omega
  · rw [swR_trp, show trp i k a = a by unfold trp; rw [if_neg (by omega), if_neg (by omega)]]
    exact h.piv a ha
/-- the rows below k led down by row k -/
noncomputable def ldR (M : Nat → Nat → Rat) (k n i j : Nat) : Rat := if k < i ∧ i < n then M i j - M i k / M k k * M k j else M i j
theorem El.step {n k : Nat} {B M : Nat → Nat → Rat} (h : El n k B M) (hk : k < n) (p : M k k ≠ 0) : El n (k + 1) B (ldR M k n) := by
  refine ⟨fun m ρ c h1 h2 h3 => ?_, fun i j hj hi hin => ?_, fun i hi => ?_⟩
  · rw [← h.same m ρ c (fun a ha => h1 a (by omega)) h2 (by omega)]
    have rk : ρ k = k := h1 k (by omega)
    have e := dt_pluss (n := m) (k := k) (by omega) (fun a => if k < ρ a then - (M (ρ a) k / M k k) else 0) (by rw [rk, if_neg (by omega)]) fun a b => M (ρ a) (c b)
    rw [← e]
    refine dt_congr fun a b ha _ => ?_
    show ldR M k n (ρ a) (c b) = M (ρ a) (c b) + _ * M (ρ k) (c b)
    rw [rk]
    unfold ldR
    by_cases z : k < ρ a
    · rw [if_pos ⟨z, h2 a ha⟩, if_pos z]; grind
    · rw [if_neg (by omega), if_neg z]; grind
  · unfold ldR
    by_cases z : j = k
    · subst z
      rw [if_pos ⟨hi, hin⟩]
      grind
    · by_cases y : k < i
      · rw [if_pos ⟨y, hin⟩, h.low i j (by omega) hi hin, h.low k j (by omega) (by omega) hk]; grind
      · rw [if_neg (by omega), h.low i j (by omega) hi hin]
  · unfold ldR
    rw [if_neg (by omega)]
    by_cases z : i = k
    · rw [z]; exact p
    · exact h.piv i (by omega)
/-- what stands at a place of the led rows -/
theorem El.at {n k : Nat} {B M : Nat → Nat → Rat} (h : El n k B M) {i j : Nat} (hk : k ≤ i) (hi : i < n) (hj : k ≤ j) : dt (k + 1) (fun a b => B (if a < k then a else i) (if b < k then b else j)) = dgP M k * M i j := by
  rw [← h.same (k + 1) (fun a => if a < k then a else i) (fun b => if b < k then b else j) (fun a ha => if_pos ha) (fun a ha => by show (if a < k then a else i) < n; split <;> omega) (by omega)]
  rw [dt_peels k (m := 1) fun a b hb hab ha => by
    rw [if_pos hb]
    exact h.low _ _ hb (by split <;> omega) (by split <;> omega)]
  rw [dgP_congr (B := M) fun a ha => by rw [if_pos ha, if_pos ha]]
  show _ * ((0 : Rat) + 1 * M (if k + 0 < k then _ else i) (if k + 0 < k then _ else j) * 1) = _
  rw [if_neg (by omega), if_neg (by omega)]
  grind
theorem El.dg {n k : Nat} {B M : Nat → Nat → Rat} (h : El n k B M) (hk : k ≤ n) : dt k B = dgP M k := by
  have e0 : dt k M = dt k B := h.same k id id (fun a _ => rfl) (fun a ha => by show a < n; omega) (by omega)
  rw [← e0]
  have e := dt_peels k (m := 0) (A := M) fun a b hb hab ha => h.low _ _ hb hab (by omega)
  rw [Nat.add_zero] at e
  rw [e]
  show dgP M k * 1 = _
  grind
/-- no number other than 0 from k on in column k: nought -/
theorem El.none {n k : Nat} {B M : Nat → Nat → Rat} (h : El n k B M) (hk : k < n) (z : ∀ i, k ≤ i → i < n → M i k = 0) : dt n B = 0 := by
  have e0 : dt n M = dt n B := h.same n id id (fun a _ => rfl) (fun a ha => ha) (by omega)
  rw [← e0]
  have e := dt_peels k (m := n - k) (A := M) fun a b hb hab ha => h.low _ _ hb hab (by omega)
  rw [show k + (n - k) = n by omega] at e
  rw [e, dt_col0 (by omega) fun a ha => z (k + a) (by omega) (by omega)]
  grind
def fk : Nat → Nat
  | 0 => 1
  | k + 1 => (k + 1) * fk k
theorem fb_sg : ∀ j, fb 1 1 (sg j)
  | 0 => fb.of_int 1 (by decide)
  | j + 1 => by
    obtain ⟨h0, z, e, hz⟩ := fb_sg j
    refine ⟨h0, -z, ?_, by omega⟩
    rw [Rat.intCast_neg, ← e]
    show (- sg j) * _ = _
    grind
theorem fb_dt {D N : Nat} (hD : 0 < D) : ∀ {n : Nat} {A : Nat → Nat → Rat}, (∀ i j, i < n → j < n → fb D N (A i j)) → fb (D ^ n) (fk n * N ^ n) (dt n A)
  | 0, _, _ => by
    show fb 1 (1 * 1) 1
    exact fb.of_int 1 (by decide)
  | n + 1, A, h => by
    have s := fb.sum (f := fun j => sg j * A 0 j * dt n fun a b => A (a + 1) (skp j b)) (d := D ^ (n + 1)) (M := N * (fk n * N ^ n)) (Nat.pow_pos hD) (n + 1) fun j hj => by
      have e := ((fb_sg j).mul (h 0 j (by omega) hj)).mul (fb_dt hD fun a b ha hb => h (a + 1) (skp j b) (by omega) (skp_lt hj hb))
      rwa [Nat.one_mul, Nat.one_mul, Nat.mul_comm D, ← Nat.pow_succ] at e
    refine s.mono (Nat.le_of_eq ?_)
    show (n + 1) * (N * (fk n * N ^ n)) = (n + 1) * fk n * N ^ (n + 1)
    rw [Nat.pow_succ, Nat.mul_assoc, Nat.mul_left_comm N, Nat.mul_comm N]
theorem quo_sz {d e M N s : Nat} {x y r : Rat} (hx : fb d M x) (hy : fb e N y) (h0 : y ≠ 0) (h : x = y * r) (h1 : M * e < 2 ^ s) (h2 : d * N < 2 ^ s) : sz s r := by
  obtain ⟨d0, a, ea, la⟩ := hx
  obtain ⟨e0, b, eb, lb⟩ := hy
  have b0 : b ≠ 0 := by
    rintro rfl
    rcases Rat.mul_eq_zero.mp eb with z | z
    · exact h0 z
    · exact cast_pos_ne e0 z
  have er : r = Rat.divInt (a * e) (b * d) := by
    rw [Rat.divInt_eq_div, Rat.intCast_mul, Rat.intCast_mul, ← ea, ← eb, h]
    have := cast_pos_ne d0
    have := cast_pos_ne e0
    grind
  have k1 : (a * e).natAbs < 2 ^ s := by
    rw [Int.natAbs_mul, Int.natAbs_natCast]
    exact Nat.lt_of_le_of_lt (Nat.mul_le_mul_right _ la) h1
  have k2 : (b * d).natAbs < 2 ^ s := by
    rw [Int.natAbs_mul, Int.natAbs_natCast, Nat.mul_comm]
    exact Nat.lt_of_le_of_lt (Nat.mul_le_mul_left _ lb) h2
  rcases Int.lt_or_gt_of_ne b0 with z | z
  · have er2 : r = Rat.divInt (-(a * e)) (-(b * d)) := by
      rw [er, Rat.divInt_eq_div, Rat.divInt_eq_div, Rat.intCast_neg, Rat.intCast_neg]
      have : ((b * (d : Int) : Int) : Rat) ≠ 0 := fun w => Int.mul_ne_zero b0 (by omega : (d : Int) ≠ 0) (Rat.intCast_inj.mp w)
      grind
    have neg : b * (d : Int) < 0 := Int.mul_neg_of_neg_of_pos z (by omega)
    rw [er2]
    exact sz_divInt (by omega) (by omega) (by omega)
  · rw [er]
    exact sz_divInt (Int.mul_pos z (by omega)) k1 k2
end Ow


namespace Ow
open PySem PySem.Spec PySem.SeqAt PyProof.Rows L2
def isLk (m : List MRow) (i : Nat) : Bool := !(m.getD i default).isSrc && !(m.getD i default).isDisc
def lkN (m : List MRow) : Nat := (List.range m.length).countP (isLk m)
theorem lk_ord {m : List MRow} (hm : Mach m) : (ordN m m.length).countP (isLk m) = lkN m := by
  obtain ⟨h1, h2, h3⟩ := ordN_ok hm m.length (Nat.le_refl _)
  refine List.Perm.countP_eq _ ?_
  refine (List.perm_ext_iff_of_nodup h2 List.nodup_range).mpr fun a => ⟨fun h => List.mem_range.mpr (h3 a h), fun h => rdy_all hm (rdy_end hm) a (List.mem_range.mp h)⟩
theorem lk_le {m : List MRow} (hm : Mach m) : lkN m + (discs m).length + 1 ≤ m.length := by
  obtain ⟨s, t, hs, _⟩ := hm.src
  have hsl : s < m.length := (List.getElem?_eq_some_iff.mp hs).1
  have e1 : (discs m).length = (List.range m.length).countP fun i => (m.getD i default).isDisc := by
    unfold discs
    rw [List.countP_eq_length_filter]
  have e2 : 1 ≤ (List.range m.length).countP fun i => (m.getD i default).isSrc := by
    refine List.countP_pos_iff.mpr ⟨s, List.mem_range.mpr hsl, ?_⟩
    rw [List.getD_eq_getElem?_getD, hs]; rfl
  have e3 : ∀ l : List Nat, (l.countP (isLk m)) + (l.countP fun i => (m.getD i default).isDisc) + (l.countP fun i => (m.getD i default).isSrc) = l.length := fun l => by
    induction l with
    | nil => rfl
    | cons a l ih =>
      simp only [List.countP_cons, List.length_cons]
      have : (if isLk m a = true then 1 else 0) + (if (m.getD a default).isDisc = true then 1 else 0) + (if (m.getD a default).isSrc = true then 1 else 0) = 1 := by
        unfold isLk
        cases m.getD a default <;> rfl
      omega
  have := e3 (List.range m.length)
  rw [List.length_range] at this
  unfold lkN
  omega
def wt (f : Nat → Rat) (k : Nat) : Rat := ((ft k : Int) : Rat) * f k
/-- a number over a power of c, its top at most a power of b -/
abbrev fp (c b e : Nat) (r : Rat) : Prop := fb (c ^ e) (b ^ e) r
theorem fp_up {c b e f : Nat} {r : Rat} (hc : 0 < c) (hb : c ≤ b) (h : fp c b e r) (hef : e ≤ f) : fp c b f r := by
  obtain ⟨d, rfl⟩ := Nat.le.dest hef
  refine fb.up h (e := c ^ d) (Nat.pow_pos hc) ?_ (by rw [Nat.pow_add])
  rw [Nat.pow_add]
  exact Nat.mul_le_mul_left _ (Nat.pow_le_pow_left hb d)
def eK (g k q : Nat) : Nat := match k with
  | 0 => 1
  | k + 1 => 1 + g * k + q
theorem even_wt {m : List MRow} (hm : Mach m) (he : evenB m = true) {T : Nat → Nat → Rat} (hT : Turn m T) {c n b : Nat} (hc : 0 < c) (hcb : 2 * c ≤ b) (hnb : n ≤ b) (hn : ∀ r ∈ m, ∀ q ∈ r.nums, fb c n q) : ∀ k j, j ≤ m.length → ∀ i ∈ ordN m j, fp c b (eK (lkN m) k ((ordN m j).countP (isLk m))) (wt (T i) k) := by
  intro k
  induction k with
  | zero =>
    intro j hj i hi
    have hil := (ordN_ok hm _ hj).2.2 i hi
    have st : fb c n (m.getD i default).st := hn _ (List.mem_of_getElem? (hm.at hil)) _ (by cases m.getD i default <;> simp [MRow.st, MRow.nums])
    show fb (c ^ 1) (b ^ 1) (((1 : Int) : Rat) * T i 0)
    rw [hT.zero i hil, Nat.pow_one, Nat.pow_one, show (((1 : Int) : Rat) * (m.getD i default).st) = (m.getD i default).st from Rat.one_mul _]
    exact st.mono hnb
  | succ k ihk =>
    intro j
    induction j with
    | zero => intro _ i hi; cases hi
    | succ j ih =>
      intro hj i hi
      obtain ⟨o1, o2, o3⟩ := ordN_ok hm j (by omega)
      obtain ⟨a, l, hca⟩ := List.exists_cons_of_ne_nil (rdy_some hm o2 o3 (by omega))
      have ho : ordN m (j + 1) = ordN m j ++ [a] := by
        show ordN m j ++ _ = _
        rw [hca]; rfl
      have ha : a ∈ rdy m (ordN m j) := by rw [hca]; simp
      obtain ⟨ha1, ha2, ha3⟩ := mem_rdy.mp ha
      have ih := ih (by omega)
      rw [ho, List.countP_append]
      rw [ho] at hi
      have cb : c ≤ b := by omega
      obtain ⟨q, hq⟩ : ∃ q, q = (ordN m j).countP (isLk m) := ⟨_, rfl⟩
      rw [← hq] at ih ⊢
      have e1 : ∀ x, eK (lkN m) (k + 1) (q + x) = eK (lkN m) (k + 1) q + x := fun x => by
        show 1 + lkN m * k + (q + x) = 1 + lkN m * k + q + x
        omega
      obtain ⟨E, hE⟩ : ∃ E, E = eK (lkN m) (k + 1) q := ⟨_, rfl⟩
      have E1 : 1 ≤ E := by rw [hE]; show 1 ≤ 1 + lkN m * k + q; omega
      rw [← hE] at ih
      rcases List.mem_append.mp hi with h | h
      · exact fp_up hc cb (ih i h) (by rw [e1, ← hE]; omega)
      · have e2 := List.mem_singleton.mp h
        subst e2
        have mem := List.mem_of_getElem? (hm.at ha1)
        have hn' := hn _ mem
        have hdr := ha3
        unfold drvs at hdr
        rw [e1, ← hE]
        cases hr : m.getD i default with
        | source s =>
          have lk : [i].countP (isLk m) = 0 := by
            rw [List.countP_singleton, show isLk m i = false by unfold isLk; rw [hr]; rfl]
            rfl
          rw [lk, Nat.add_zero]
          show fp c b E (((ft (k + 1) : Int) : Rat) * T i (k + 1))
          rw [hT.step i (k + 1) ha1 (Nat.succ_pos _), hr]
          show fp c b E (((ft (k + 1) : Int) : Rat) * (if k + 1 = 1 then 1 else 0))
          split
          · rename_i hk
            have hk : k = 0 := by omega
            subst hk
            refine fp_up (e := 0) hc cb ?_ (Nat.zero_le _)
            rw [show (((ft (0 + 1) : Nat) : Int) : Rat) * 1 = ((1 : Int) : Rat) from Rat.mul_one _]
            exact fb.of_int 1 (Nat.le_refl 1)
          · rw [show (((ft (k + 1) : Int) : Rat) * 0) = 0 by grind]
            exact (fb.zero (Nat.pow_pos hc)).mono (Nat.zero_le _)
        | gear s r d =>
          have lk : [i].countP (isLk m) = 1 := by
            rw [List.countP_singleton, show isLk m i = true by unfold isLk; rw [hr]; rfl]
            rfl
          rw [hr] at hn' hdr
          rw [lk]
          show fp c b (E + 1) (((ft (k + 1) : Int) : Rat) * T i (k + 1))
          rw [hT.step i (k + 1) ha1 (Nat.succ_pos _), hr]
          have h1 := (ih d (hdr d (by simp [MRow.drv]))).mul (hn' r (by simp [MRow.nums]))
          show fp c b (E + 1) (((ft (k + 1) : Int) : Rat) * (r * T d (k + 1)))
          rw [show (((ft (k + 1) : Int) : Rat) * (r * T d (k + 1))) = wt (T d) (k + 1) * r by unfold wt; grind]
          show fb (c ^ (E + 1)) (b ^ (E + 1)) _
          rw [Nat.pow_succ, Nat.pow_succ]
          exact h1.mono (Nat.mul_le_mul_left _ hnb)
        | adder s x y =>
          have lk : [i].countP (isLk m) = 1 := by
            rw [List.countP_singleton, show isLk m i = true by unfold isLk; rw [hr]; rfl]
            rfl
          rw [hr] at hdr
          rw [lk]
          show fp c b (E + 1) (((ft (k + 1) : Int) : Rat) * T i (k + 1))
          rw [hT.step i (k + 1) ha1 (Nat.succ_pos _), hr]
          have h1 := (ih x (hdr x (by simp [MRow.drv]))).add (ih y (hdr y (by simp [MRow.drv])))
          show fp c b (E + 1) (((ft (k + 1) : Int) : Rat) * (T x (k + 1) + T y (k + 1)))
          rw [show (((ft (k + 1) : Int) : Rat) * (T x (k + 1) + T y (k + 1))) = wt (T x) (k + 1) + wt (T y) (k + 1) by unfold wt; grind]
          refine fb.up h1 (e := c) hc ?_ (by rw [Nat.pow_succ])
          rw [Nat.pow_succ]
          have := Nat.mul_le_mul_left (b ^ E) hcb
          grind
        | disc s w d =>
          have lk : [i].countP (isLk m) = 0 := by
            rw [List.countP_singleton, show isLk m i = false by unfold isLk; rw [hr]; rfl]
            rfl
          rw [lk, Nat.add_zero]
          have hw := hm.whl i s w d (by rw [hm.at ha1, hr])
          have hwo := rdy_all hm (rdy_end hm) w hw
          have h1 := ihk m.length (Nat.le_refl _) w hwo
          rw [lk_ord hm] at h1
          show fp c b E (((ft (k + 1) : Int) : Rat) * T i (k + 1))
          rw [disc_term hm he hT ha1 hr k]
          have e4 : (((ft (k + 1) : Nat) : Int) : Rat) * (T w k / (((k + 1 : Nat) : Int) : Rat)) = wt (T w) k := by
            show ((((k + 1) * ft k : Nat) : Int) : Rat) * _ = ((ft k : Int) : Rat) * T w k
            rw [cast_mul]
            have := cast_pos_ne (Nat.succ_pos k)
            grind
          rw [e4]
          refine fp_up hc cb h1 ?_
          rw [hE]
          cases k with
          | zero => show 1 ≤ 1 + _ + _; omega
          | succ k =>
            show 1 + lkN m * k + lkN m ≤ 1 + lkN m * (k + 1) + q
            rw [Nat.mul_succ]
            omega
theorem even_wtA {m : List MRow} (hm : Mach m) (he : evenB m = true) {T : Nat → Nat → Rat} (hT : Turn m T) {c n b : Nat} (hc : 0 < c) (hcb : 2 * c ≤ b) (hnb : n ≤ b) (hn : ∀ r ∈ m, ∀ q ∈ r.nums, fb c n q) {i : Nat} (hi : i < m.length) (k : Nat) : fp c b (1 + lkN m * k) (wt (T i) k) := by
  have h := even_wt hm he hT hc hcb hnb hn k m.length (Nat.le_refl _) i (rdy_all hm (rdy_end hm) i hi)
  rw [lk_ord hm] at h
  refine fp_up hc (by omega) h ?_
  cases k with
  | zero => show 1 ≤ 1 + _; omega
  | succ k => show 1 + lkN m * k + lkN m ≤ 1 + lkN m * (k + 1); rw [Nat.mul_succ]; omega
end Ow


namespace Ow
open PySem PySem.Spec PySem.SeqAt PyProof.Rows L2
theorem dt_row0 {n i : Nat} {A : Nat → Nat → Rat} (hi : i < n) (h : ∀ b, b < n → A i b = 0) : dt n A = 0 := by
  have e := dt_often hi 0 A
  rw [dt_congr (B := A) fun a b _ hb => by
    unfold stR
    by_cases z : a = i
    · rw [if_pos z, z, h b hb]; grind
    · rw [if_neg z]] at e
  rw [e]
  grind
theorem dt_colc : ∀ {n c : Nat} {A : Nat → Nat → Rat}, c < n → (∀ a, a < n → A a c = 0) → dt n A = 0
  | n + 1, c, A, hc, h => by
    show sumF _ _ = 0
    rw [sumF_congr (g := fun _ => 0) fun j hj => by
      by_cases z : j = c
      · rw [z, h 0 (by omega)]; grind
      · by_cases y : c < j
        · rw [dt_colc (n := n) (c := c) (by omega) fun a ha => by
            show A (a + 1) (skp j c) = 0
            rw [show skp j c = c from if_pos y]
            exact h (a + 1) (by omega)]
          grind
        · rw [dt_colc (n := n) (c := c - 1) (by omega) fun a ha => by
            show A (a + 1) (skp j (c - 1)) = 0
            rw [show skp j (c - 1) = c by unfold skp; rw [if_neg (by omega)]; omega]
            exact h (a + 1) (by omega)]
          grind, sumF_zero]
theorem sg_ne : ∀ j, sg j ≠ 0
  | 0 => by show (1 : Rat) ≠ 0; decide
  | j + 1 => by
    have := sg_ne j
    show - sg j ≠ 0
    grind
/-- noughts behind the other slope -/
theorem dt_anti : ∀ {n : Nat} {A : Nat → Nat → Rat}, (∀ i j, i < n → j < n → n ≤ i + j → A i j = 0) → (∀ i j, i + j + 1 = n → A i j ≠ 0) → dt n A ≠ 0
  | 0, _, _, _ => by show (1 : Rat) ≠ 0; decide
  | n + 1, A, h, h2 => by
    have e : dt (n + 1) A = sg n * A 0 n * dt n fun a b => A (a + 1) b := by
      show sumF (fun j => sg j * A 0 j * dt n fun a b => A (a + 1) (skp j b)) n + sg n * A 0 n * (dt n fun a b => A (a + 1) (skp n b)) = _
      rw [sumF_congr (g := fun _ => 0) fun j hj => by
        rw [dt_colc (n := n) (c := n - 1) (by omega) fun a ha => by
          show A (a + 1) (skp j (n - 1)) = 0
          rw [show skp j (n - 1) = n by unfold skp; rw [if_neg (by omega)]; omega]
          exact h (a + 1) n (by omega) (by omega) (by omega)]
        grind, sumF_zero, dt_congr (n := n) (A := fun a b => A (a + 1) (skp n b)) (B := fun a b => A (a + 1) b) fun a b _ hb => by rw [show skp n b = b from if_pos hb]]
      grind
    have ih := dt_anti (n := n) (A := fun a b => A (a + 1) b) (fun i j hi hj hij => h (i + 1) j (by omega) (by omega) (by omega)) (fun i j hij => h2 (i + 1) j (by omega))
    rw [e]
    intro z
    rcases Rat.mul_eq_zero.mp z with z | z
    · rcases Rat.mul_eq_zero.mp z with z | z
      · exact sg_ne n z
      · exact h2 0 n (by omega) z
    · exact ih z
theorem dt_1 (A : Nat → Nat → Rat) : dt 1 A = A 0 0 := by
  show (0 : Rat) + 1 * A 0 0 * 1 = _
  grind
theorem dt_2 (A : Nat → Nat → Rat) : dt 2 A = A 0 0 * A 1 1 - A 0 1 * A 1 0 := by
  show (0 : Rat) + 1 * A 0 0 * dt 1 (fun a b => A (a + 1) (skp 0 b)) + (- 1) * A 0 1 * dt 1 (fun a b => A (a + 1) (skp 1 b)) = _
  rw [dt_1, dt_1]
  show (0 : Rat) + 1 * A 0 0 * A 1 1 + (- 1) * A 0 1 * A 1 0 = _
  grind
theorem dt_3 (A : Nat → Nat → Rat) : dt 3 A = A 0 0 * (A 1 1 * A 2 2 - A 1 2 * A 2 1) - A 0 1 * (A 1 0 * A 2 2 - A 1 2 * A 2 0) + A 0 2 * (A 1 0 * A 2 1 - A 1 1 * A 2 0) := by
  show (0 : Rat) + 1 * A 0 0 * dt 2 (fun a b => A (a + 1) (skp 0 b)) + (- 1) * A 0 1 * dt 2 (fun a b => A (a + 1) (skp 1 b)) + (- - 1) * A 0 2 * dt 2 (fun a b => A (a + 1) (skp 2 b)) = _
  rw [dt_2, dt_2, dt_2]
  show (0 : Rat) + 1 * A 0 0 * (A 1 1 * A 2 2 - A 1 2 * A 2 1) + (- 1) * A 0 1 * (A 1 0 * A 2 2 - A 1 2 * A 2 0) + (- - 1) * A 0 2 * (A 1 0 * A 2 1 - A 1 1 * A 2 0) = _
  grind
theorem wt_0 {m : List MRow} {T : Nat → Nat → Rat} (hT : Turn m T) {i : Nat} (hi : i < m.length) : wt (T i) 0 = (m.getD i default).st := by
  show ((1 : Int) : Rat) * T i 0 = _
  rw [hT.zero i hi]
  exact Rat.one_mul _
theorem wt_disc {m : List MRow} (hm : Mach m) (he : evenB m = true) {T : Nat → Nat → Rat} (hT : Turn m T) {i : Nat} (hi : i < m.length) {s : Rat} {w d : Nat} (hr : m.getD i default = .disc s w d) (k : Nat) : wt (T i) (k + 1) = wt (T w) k := by
  show (((ft (k + 1) : Nat) : Int) : Rat) * T i (k + 1) = ((ft k : Int) : Rat) * T w k
  rw [disc_term hm he hT hi hr k]
  show ((((k + 1) * ft k : Nat) : Int) : Rat) * _ = ((ft k : Int) : Rat) * T w k
  rw [cast_mul]
  have := cast_pos_ne (Nat.succ_pos k)
  grind
theorem wt_gear {m : List MRow} {T : Nat → Nat → Rat} (hT : Turn m T) {i : Nat} (hi : i < m.length) {s q : Rat} {d : Nat} (hr : m.getD i default = .gear s q d) (k : Nat) : wt (T i) (k + 1) = q * wt (T d) (k + 1) := by
  show _ * T i (k + 1) = q * (_ * T d (k + 1))
  rw [hT.step i (k + 1) hi (Nat.succ_pos _), hr]
  show _ * (q * T d (k + 1)) = _
  grind
theorem wt_adder {m : List MRow} {T : Nat → Nat → Rat} (hT : Turn m T) {i : Nat} (hi : i < m.length) {s : Rat} {x y : Nat} (hr : m.getD i default = .adder s x y) (k : Nat) : wt (T i) (k + 1) = wt (T x) (k + 1) + wt (T y) (k + 1) := by
  show _ * T i (k + 1) = _ * T x (k + 1) + _ * T y (k + 1)
  rw [hT.step i (k + 1) hi (Nat.succ_pos _), hr]
  show _ * (T x (k + 1) + T y (k + 1)) = _
  grind
theorem wt_src {m : List MRow} {T : Nat → Nat → Rat} (hT : Turn m T) {i : Nat} (hi : i < m.length) (hs : (m.getD i default).isSrc = true) (k : Nat) : wt (T i) (k + 1) = if k = 0 then 1 else 0 := by
  show _ * T i (k + 1) = _
  rw [turn_src hT hi hs (Nat.succ_pos _)]
  by_cases z : k = 0
  · subst z
    rw [if_pos rfl, if_pos rfl]
    show ((1 : Int) : Rat) * 1 = 1
    exact Rat.one_mul _
  · rw [if_neg (by omega), if_neg z]
    grind
theorem mem_discsL {m : List MRow} {i : Nat} : i ∈ discs m ↔ i < m.length ∧ (m.getD i default).isDisc = true := by
  unfold discs
  rw [List.mem_filter, List.mem_range]
theorem discs_renM {m : List MRow} {p : List Nat} (hp : p.Perm (List.range m.length)) : (discs (renM m p)).length = (discs m).length := by
  have hl : p.length = m.length := by rw [hp.length_eq, List.length_range]
  have e0 : ∀ m : List MRow, (discs m).length = (List.range m.length).countP fun i => (m.getD i default).isDisc := fun m => by
    unfold discs
    rw [List.countP_eq_length_filter]
  rw [e0, e0, renM_len, ← hp.countP_eq]
  have e3 : p = (List.range m.length).map fun i => p.getD i 0 := by
    apply List.ext_getElem
    · simp [hl]
    · intro i a b
      simp only [List.getElem_map, List.getElem_range, List.getD_eq_getElem?_getD]
      rw [List.getElem?_eq_getElem a]; rfl
  have e4 : p.countP (fun i => ((renM m p).getD i default).isDisc) = ((List.range m.length).map fun i => p.getD i 0).countP fun i => ((renM m p).getD i default).isDisc := by rw [← e3]
  rw [e4, List.countP_map]
  refine List.countP_congr fun i hi => ?_
  show ((renM m p).getD (p.getD i 0) default).isDisc = true ↔ (m.getD i default).isDisc = true
  rw [renM_get hp (List.mem_range.mp hi), disc_ren]
theorem even_renM {m : List MRow} (hm : Mach m) (he : evenB m = true) {p : List Nat} (hp : p.Perm (List.range m.length)) : evenB (renM m p) = true := by
  refine List.all_eq_true.mpr fun x hx => ?_
  obtain ⟨h1, h2⟩ := mem_discsL.mp hx
  rw [renM_len] at h1
  obtain ⟨a, b⟩ := perm_to hp h1
  have g := renM_get hp a
  rw [b] at g
  rw [g, disc_ren] at h2
  have h3 := List.all_eq_true.mp he (p.idxOf x) (mem_discsL.mpr ⟨a, h2⟩)
  rw [g, last_ren _ _ h2]
  obtain ⟨rk, hrk⟩ := hm.rk
  have hlt : (m.getD (p.idxOf x) default).last < m.length := by
    have := hrk _ _ (hm.at a)
    revert this h2
    cases m.getD (p.idxOf x) default with
    | disc s w k => exact fun _ h => (h k (by simp [MRow.drv])).1
    | _ => exact fun h => by cases h
  rw [renM_get hp hlt, src_ren]
  exact h3
end Ow


namespace Law
open PySem PySem.Spec PySem.SeqAt PyProof.Rows L2 Ow
noncomputable def d__law_bag : List D → FR := fnD 3 []
 (sSeq (sSet 2 (eBin dAdd (eBin dMul (eC (.int 5081)) (eVar 1)) (eC (.int 3))))
 (sSeq (sIf (tOf (eBin dLt (eVar 1) (eCall1 fLen (aCons (eVar 0) aNil))))
 (sSet 2 (eFlat (eBin dIx (eVar 0) (eVar 1))))
 sSkip)
 (sRet (eLst (aCons (eBin dMul (eCall1 fAbs (aCons (eVar 2) aNil)) (eCall1 fInt (aCons (eBin dGe (eCall1 fAbs (aCons (eVar 2) aNil)) (eBin dPow (eC (.int 10)) (eC (.int 18)))) aNil))) (aCons (eBin dAdd (eBin dMod (eVar 2) (eC (.int 2147483587))) (eBin dMul (eC (.int 40009)) (eVar 1))) (aCons (eC (.int 0)) aNil)))))))
noncomputable def d__law_take : List D → FR := fnD 7 [0]
 (sSeq (sIf (tOf (eBin dGt (eBin dIx (eVar 0) (eC (.int 0))) (eC (.int 0))))
 (sSeq (sSet 2 (eBin dMod (eBin dIx (eVar 0) (eC (.int 0))) (eVar 1)))
 (sSeq (sSetIx 0 (eBin dDiv (eBin dIx (eVar 0) (eC (.int 0))) (eVar 1)) (eC (.int 0)))
 (sRet (eFlat (eVar 2)))))
 sSkip)
 (sSeq (sSet 3 (eTup (aCons (eC (.int 2147483647)) (aCons (eC (.int 2147483629)) (aCons (eC (.int 2147483587)) (aCons (eC (.int 2147483579)) (aCons (eC (.int 2147483563)) (aCons (eC (.int 2147483549)) (aCons (eC (.int 2147483543)) (aCons (eC (.int 2147483497)) aNil))))))))))
 (sSeq (sSetIx 0 (eBin dAdd (eBin dIx (eVar 0) (eC (.int 2))) (eC (.int 1))) (eC (.int 2)))
 (sSeq (sSet 4 (eFlat (eBin dIx (eVar 0) (eC (.int 2)))))
 (sSeq (sSet 5 (eBin dAdd (eBin dMul (eBin dAdd (eBin dIx (eVar 0) (eC (.int 1))) (eC (.int 1))) (eBin dAdd (eBin dMul (eC (.int 2)) (eVar 4)) (eC (.int 3)))) (eBin dMul (eBin dMul (eC (.int 6007)) (eVar 4)) (eVar 4))))
 (sSeq (sSet 6 (eBin dMod (eBin dPow (eVar 5) (eC (.int 3))) (eBin dIx (eVar 3) (eBin dMod (eVar 4) (eC (.int 8))))))
 (sRet (eBin dMod (eBin dDiv (eBin dMod (eBin dMul (eVar 6) (eBin dAdd (eBin dDiv (eVar 6) (eC (.int 8192))) (eC (.int 11)))) (eBin dIx (eVar 3) (eBin dMod (eBin dAdd (eVar 4) (eC (.int 3))) (eC (.int 8))))) (eC (.int 32))) (eVar 1)))))))))
noncomputable def d__law_chain : List D → FR := fnD 6 [0]
 (sSeq (sSet 1 (eBin dAdd (eC (.int 1)) (eCall d__law_take [0] (aSlot 0 (aCons (eC (.int 5)) aNil)))))
 (sSeq (sSet 2 (eCall d__law_take [0] (aSlot 0 (aCons (eC (.int 2)) aNil))))
 (sSeq (sSet 3 (eCall d__law_take [0] (aSlot 0 (aCons (eC (.int 3)) aNil))))
 (sSeq (sSet 4 (eLst (aCons (eTup (aCons (eC (.str "source")) (aCons (eTup (aCons (eBin dSub (eCall d__law_take [0] (aSlot 0 (aCons (eC (.int 9)) aNil))) (eC (.int 4))) (aCons (eC (.int 1)) aNil))) aNil))) aNil)))
 (sSeq (sFor (.nm 5) (gRange (aCons (eFlat (eVar 1)) aNil))
 (sDrop (eMut "list" 4 mAppend (aCons (eTup (aCons (eC (.str "disc")) (aCons (eTup (aCons (eBin dSub (eCall d__law_take [0] (aSlot 0 (aCons (eC (.int 9)) aNil))) (eC (.int 4))) (aCons (eC (.int 1)) aNil))) (aCons (eBin dAdd (eVar 5) (eC (.int 2))) (aCons (eC (.int 0)) aNil))))) aNil))))
 (sSeq (sIf (tOf (eBin dEq (eVar 2) (eC (.int 1))))
 (sDrop (eMut "list" 4 mAppend (aCons (eTup (aCons (eC (.str "gear")) (aCons (eTup (aCons (eBin dAdd (eC (.int 1)) (eCall d__law_take [0] (aSlot 0 (aCons (eC (.int 6)) aNil)))) (aCons (eC (.int 1)) aNil))) (aCons (eTup (aCons (eC (.int 0)) (aCons (eC (.int 1)) aNil))) (aCons (eC (.int 0)) aNil))))) aNil)))
 (sSetIx 4 (eTup (aCons (eC (.str "disc")) (aCons (eFlat (eBin dIx (eBin dIx (eVar 4) (eVar 1)) (eC (.int 1)))) (aCons (eC (.int 0)) (aCons (eC (.int 0)) aNil))))) (eVar 1)))
 (sSeq (sFor (.nm 5) (gRange (aCons (eCall1 fMin2 (aCons (eVar 3) (aCons (eBin dSub (eC (.int 5)) (eVar 1)) aNil))) aNil))
 (sDrop (eMut "list" 4 mAppend (aCons (eTup (aCons (eC (.str "disc")) (aCons (eTup (aCons (eBin dSub (eCall d__law_take [0] (aSlot 0 (aCons (eC (.int 9)) aNil))) (eC (.int 4))) (aCons (eC (.int 1)) aNil))) (aCons (eCall d__law_take [0] (aSlot 0 (aCons (eCall1 fLen (aCons (eVar 4) aNil)) aNil))) (aCons (eC (.int 0)) aNil))))) aNil))))
 (sRet (eTup (aCons (eVar 4) (aCons (eC (.int 1)) (aCons (eBin dSub (eVar 1) (eVar 2)) aNil))))))))))))
noncomputable def d__law_circling : List D → FR := fnD 4 [0]
 (sSeq (sPar 1 2 (aCons (eBin dSub (eCall d__law_take [0] (aSlot 0 (aCons (eC (.int 5)) aNil))) (eC (.int 2))) (aCons (eBin dSub (eCall d__law_take [0] (aSlot 0 (aCons (eC (.int 5)) aNil))) (eC (.int 2))) aNil)))
 (sSeq (sSet 3 (eLst (aCons (eTup (aCons (eC (.str "source")) (aCons (eTup (aCons (eC (.int 0)) (aCons (eC (.int 1)) aNil))) aNil))) (aCons (eTup (aCons (eC (.str "disc")) (aCons (eTup (aCons (eFlat (eVar 1)) (aCons (eC (.int 1)) aNil))) (aCons (eC (.int 2)) (aCons (eC (.int 0)) aNil))))) (aCons (eTup (aCons (eC (.str "disc")) (aCons (eTup (aCons (eFlat (eVar 2)) (aCons (eC (.int 1)) aNil))) (aCons (eC (.int 3)) (aCons (eC (.int 0)) aNil))))) (aCons (eTup (aCons (eC (.str "gear")) (aCons (eTup (aCons (eBin dSub (eC (.int 0)) (eVar 1)) (aCons (eC (.int 1)) aNil))) (aCons (eTup (aCons (eUn dNeg (eC (.int 1))) (aCons (eC (.int 1)) aNil))) (aCons (eC (.int 1)) aNil))))) aNil))))))
 (sRet (eTup (aCons (eVar 3) (aCons (eBin dAdd (eC (.int 1)) (eCall d__law_take [0] (aSlot 0 (aCons (eC (.int 2)) aNil)))) (aCons (eBin dMul (eC (.int 2)) (eCall1 fInt (aCons (eOr (eBin dNe (eVar 1) (eC (.int 0))) (eBin dNe (eVar 2) (eC (.int 0)))) aNil))) aNil)))))))
noncomputable def d__law_growing : List D → FR := fnD 8 [0]
 (sSeq (sSet 1 (eBin dAdd (eC (.int 1)) (eCall d__law_take [0] (aSlot 0 (aCons (eC (.int 3)) aNil)))))
 (sSeq (sSet 2 (eLst (aCons (eBin dSub (eCall d__law_take [0] (aSlot 0 (aCons (eC (.int 7)) aNil))) (eC (.int 3))) (aCons (eC (.int 4)) (aCons (eUn dNeg (eC (.int 4))) aNil)))))
 (sSeq (sSet 3 (eLst (aCons (eTup (aCons (eC (.str "source")) (aCons (eTup (aCons (eBin dSub (eCall d__law_take [0] (aSlot 0 (aCons (eC (.int 9)) aNil))) (eC (.int 4))) (aCons (eC (.int 1)) aNil))) aNil))) aNil)))
 (sSeq (sSet 4 (eC (.int 0)))
 (sSeq (sFor (.nm 5) (gRange (aCons (eFlat (eVar 1)) aNil))
 (sSeq (sSet 6 (eBin dSub (eCall d__law_take [0] (aSlot 0 (aCons (eC (.int 5)) aNil))) (eC (.int 2))))
 (sSeq (sDrop (eMut "list" 3 mAppend (aCons (eTup (aCons (eC (.str "disc")) (aCons (eTup (aCons (eFlat (eVar 6)) (aCons (eC (.int 1)) aNil))) (aCons (eBin dAdd (eCall1 fLen (aCons (eVar 3) aNil)) (eC (.int 1))) (aCons (eC (.int 0)) aNil))))) aNil)))
 (sSeq (sDrop (eMut "list" 3 mAppend (aCons (eTup (aCons (eC (.str "gear")) (aCons (eTup (aCons (eBin dMul (eVar 6) (eBin dIx (eVar 2) (eVar 5))) (aCons (eC (.int 1)) aNil))) (aCons (eTup (aCons (eFlat (eBin dIx (eVar 2) (eVar 5))) (aCons (eC (.int 1)) aNil))) (aCons (eBin dSub (eCall1 fLen (aCons (eVar 3) aNil)) (eC (.int 1))) aNil))))) aNil)))
 (sSet 4 (eBin dAdd (eVar 4) (eCall1 fInt (aCons (eAnd (eBin dNe (eVar 6) (eC (.int 0))) (eBin dNe (eBin dIx (eVar 2) (eVar 5)) (eC (.int 0)))) aNil))))))))
 (sSeq (sSet 7 (eC (.int 1)))
 (sSeq (sFor (.nm 5) (gRange (aCons (eC (.int 1)) (aCons (eFlat (eVar 1)) aNil)))
 (sSeq (sDrop (eMut "list" 3 mAppend (aCons (eTup (aCons (eC (.str "adder")) (aCons (eTup (aCons (eBin dSub (eCall d__law_take [0] (aSlot 0 (aCons (eC (.int 9)) aNil))) (eC (.int 4))) (aCons (eC (.int 1)) aNil))) (aCons (eFlat (eVar 7)) (aCons (eBin dAdd (eBin dMul (eC (.int 2)) (eVar 5)) (eC (.int 1))) aNil))))) aNil)))
 (sSet 7 (eBin dSub (eCall1 fLen (aCons (eVar 3) aNil)) (eC (.int 1))))))
 (sRet (eTup (aCons (eVar 3) (aCons (eFlat (eVar 7)) (aCons (eFlat (eVar 4)) aNil))))))))))))
noncomputable def d__law_turned : List D → FR := fnD 5 [0]
 (sSeq (sSet 2 (eUn (fun d => fLRng [d]) (eVar 1)))
 (sSeq (sSet 3 (eLst aNil))
 (sSeq (sFor (.nm 4) (gRange (aCons (eFlat (eVar 1)) aNil))
 (sDrop (eMut "list" 3 mAppend (aCons (eMut "list" 2 mPopAt (aCons (eCall d__law_take [0] (aSlot 0 (aCons (eCall1 fLen (aCons (eVar 2) aNil)) aNil))) aNil)) aNil))))
 (sRetV 3))))
noncomputable def d__law_renamed : List D → FR := fnD 7 [0]
 (sSeq (sSet 3 (eCall d__law_turned [0] (aSlot 0 (aCons (eCall1 fLen (aCons (eVar 1) aNil)) aNil))))
 (sSeq (sSet 4 (eBin dRep (eLst (aCons (eC .non) aNil)) (eCall1 fLen (aCons (eVar 1) aNil))))
 (sSeq (sFor (.tp [5, 6]) (gFun fEnum (aCons (eVar 1) aNil))
 (sSeq (sIf (tOf (eBin dEq (eBin dIx (eVar 6) (eC (.int 0))) (eC (.str "gear"))))
 (sSet 6 (eFlat (eBin dCatT (eSl dSlT (eVar 6) oNone (oSome (eC (.int 3)))) (eTup (aCons (eFlat (eBin dIx (eVar 3) (eBin dIx (eVar 6) (eC (.int 3))))) aNil)))))
 sSkip)
 (sSeq (sIf (tOf (eBin dInT (eBin dIx (eVar 6) (eC (.int 0))) (eTup (aCons (eC (.str "adder")) (aCons (eC (.str "disc")) aNil)))))
 (sSet 6 (eFlat (eBin dCatT (eSl dSlT (eVar 6) oNone (oSome (eC (.int 2)))) (eTup (aCons (eFlat (eBin dIx (eVar 3) (eBin dIx (eVar 6) (eC (.int 2))))) (aCons (eFlat (eBin dIx (eVar 3) (eBin dIx (eVar 6) (eC (.int 3))))) aNil))))))
 sSkip)
 (sSetIx 4 (eFlat (eVar 6)) (eBin dIx (eVar 3) (eVar 5))))))
 (sRet (eTup (aCons (eVar 4) (aCons (eFlat (eBin dIx (eVar 3) (eVar 2))) aNil)))))))
noncomputable def d_first_lead : List D → FR := fnD 3 []
 (sSeq (sFor (.nm 2) (gRange (aCons (eFlat (eVar 1)) (aCons (eCall1 fLen (aCons (eVar 0) aNil)) aNil)))
 (sIf (tOf (eBin dNe (eBin dIx (eBin dIx (eVar 0) (eVar 2)) (eVar 1)) (eC (.tup [.int 0, .int 1]))))
 (sRet (eFlat (eVar 2)))
 sSkip))
 (sRet (eC .non)))
noncomputable def d_shared : List D → FR := fnD 2 []
 (sSeq (sPar 0 1 (aCons (eCall1 fAbs (aCons (eVar 0) aNil)) (aCons (eCall1 fAbs (aCons (eVar 1) aNil)) aNil)))
 (sSeq (sWhile (tOf (eBin dGt (eVar 1) (eC (.int 0))))
 (sPar 0 1 (aCons (eFlat (eVar 1)) (aCons (eBin dMod (eVar 0) (eVar 1)) aNil))))
 (sRet (eFlat (eVar 0)))))
noncomputable def d_fraction : List D → FR := fnD 3 []
 (sSeq (sIf (tOf (eBin dEq (eVar 1) (eC (.int 0))))
 (sRaise "NoFraction")
 sSkip)
 (sSeq (sSet 2 (eCall d_shared [] (aCons (eVar 0) (aCons (eVar 1) aNil))))
 (sSeq (sIf (tOf (eBin dLt (eVar 1) (eC (.int 0))))
 (sSet 2 (eBin dSub (eC (.int 0)) (eVar 2)))
 sSkip)
 (sRet (eTup (aCons (eBin dDiv (eVar 0) (eVar 2)) (aCons (eBin dDiv (eVar 1) (eVar 2)) aNil)))))))
noncomputable def d_less : List D → FR := fnD 2 []
 (sRet (eCall d_fraction [] (aCons (eBin dSub (eBin dMul (eBin dIx (eVar 0) (eC (.int 0))) (eBin dIx (eVar 1) (eC (.int 1)))) (eBin dMul (eBin dIx (eVar 1) (eC (.int 0))) (eBin dIx (eVar 0) (eC (.int 1))))) (aCons (eBin dMul (eBin dIx (eVar 0) (eC (.int 1))) (eBin dIx (eVar 1) (eC (.int 1)))) aNil))))
noncomputable def d_over : List D → FR := fnD 2 []
 (sRet (eCall d_fraction [] (aCons (eBin dMul (eBin dIx (eVar 0) (eC (.int 0))) (eBin dIx (eVar 1) (eC (.int 1)))) (aCons (eBin dMul (eBin dIx (eVar 0) (eC (.int 1))) (eBin dIx (eVar 1) (eC (.int 0)))) aNil))))
noncomputable def d_times : List D → FR := fnD 2 []
 (sRet (eCall d_fraction [] (aCons (eBin dMul (eBin dIx (eVar 0) (eC (.int 0))) (eBin dIx (eVar 1) (eC (.int 0)))) (aCons (eBin dMul (eBin dIx (eVar 0) (eC (.int 1))) (eBin dIx (eVar 1) (eC (.int 1)))) aNil))))
noncomputable def d_row_less : List D → FR := fnD 5 []
 (sRet (eLc (.tp [3, 4]) [] (gFun fZip (aCons (eVar 0) (aCons (eVar 2) aNil))) tYesD (eCall d_less [] (aCons (eVar 3) (aCons (eCall d_times [] (aCons (eVar 1) (aCons (eVar 4) aNil))) aNil)))))
noncomputable def d_determinant : List D → FR := fnD 7 []
 (sSeq (sSet 1 (eLc (.nm 6) [] (gList (eVar 0)) tYesD (eFlatL (eCall1 fListOf (aCons (eVar 6) aNil)))))
 (sSeq (sSet 2 (eC (.tup [.int 1, .int 1])))
 (sSeq (sFor (.nm 3) (gRange (aCons (eCall1 fLen (aCons (eVar 1) aNil)) aNil))
 (sSeq (sSet 4 (eCall d_first_lead [] (aCons (eVar 1) (aCons (eVar 3) aNil))))
 (sSeq (sIf (tOf (eBin dIsN (eVar 4) (eC .non)))
 (sRet (eC (.tup [.int 0, .int 1])))
 sSkip)
 (sSeq (sIf (tOf (eBin dNe (eVar 4) (eVar 3)))
 (sSeq (sSwapIx 1 3 4)
 (sSet 2 (eCall d_less [] (aCons (eC (.tup [.int 0, .int 1])) (aCons (eVar 2) aNil)))))
 sSkip)
 (sSeq (sSet 2 (eCall d_times [] (aCons (eVar 2) (aCons (eBin dIx (eBin dIx (eVar 1) (eVar 3)) (eVar 3)) aNil))))
 (sFor (.nm 5) (gRange (aCons (eBin dAdd (eVar 3) (eC (.int 1))) (aCons (eCall1 fLen (aCons (eVar 1) aNil)) aNil)))
 (sSetIx 1 (eCall d_row_less [] (aCons (eBin dIx (eVar 1) (eVar 5)) (aCons (eCall d_over [] (aCons (eBin dIx (eBin dIx (eVar 1) (eVar 5)) (eVar 3)) (aCons (eBin dIx (eBin dIx (eVar 1) (eVar 3)) (eVar 3)) aNil))) (aCons (eBin dIx (eVar 1) (eVar 3)) aNil)))) (eVar 5))))))))
 (sRet (eFlat (eVar 2))))))
noncomputable def d_discs_of : List D → FR := fnD 2 []
 (sRet (eLc (.nm 1) [] (gRange (aCons (eCall1 fLen (aCons (eVar 0) aNil)) aNil)) (tOf (eBin dEq (eBin dIx (eBin dIx (eVar 0) (eVar 1)) (eC (.int 0))) (eC (.str "disc")))) (eFlat (eVar 1))))
noncomputable def d_is_source : List D → FR := fnD 1 []
 (sRet (eBin dEq (eBin dIx (eVar 0) (eC (.int 0))) (eC (.str "source"))))
noncomputable def d_is_even : List D → FR := fnD 2 []
 (sRet (eCall1 fAll (aCons (eLc (.nm 1) [] (gList (eCall d_discs_of [] (aCons (eVar 0) aNil))) tYesD (eCall d_is_source [] (aCons (eBin dIx (eVar 0) (eBin dIx (eBin dIx (eVar 0) (eVar 1)) (eC (.int 3)))) aNil))) aNil)))
noncomputable def d_look_even : List D → FR := fnD 1 []
 (sIf (tNotD (tTru (eCall d_is_even [] (aCons (eVar 0) aNil))))
 (sRaise "NotEven")
 sSkip)
noncomputable def d_square_from : List D → FR := fnD 3 []
 (sRet (eLc (.nm 2) [] (gRange (aCons (eFlat (eVar 1)) aNil)) tYesD (eFlatL (eSl dSlL (eVar 0) (oSome (eBin dAdd (eVar 2) (eC (.int 2)))) (oSome (eBin dAdd (eBin dAdd (eVar 2) (eC (.int 2))) (eVar 1)))))))
noncomputable def d_plus : List D → FR := fnD 2 []
 (sRet (eCall d_fraction [] (aCons (eBin dAdd (eBin dMul (eBin dIx (eVar 0) (eC (.int 0))) (eBin dIx (eVar 1) (eC (.int 1)))) (eBin dMul (eBin dIx (eVar 1) (eC (.int 0))) (eBin dIx (eVar 0) (eC (.int 1))))) (aCons (eBin dMul (eBin dIx (eVar 0) (eC (.int 1))) (eBin dIx (eVar 1) (eC (.int 1)))) aNil))))
noncomputable def d_whole : List D → FR := fnD 1 []
 (sRet (eTup (aCons (eFlat (eVar 0)) (aCons (eC (.int 1)) aNil))))
noncomputable def d_term_along : List D → FR := fnD 5 []
 (sSeq (sSet 3 (eC (.tup [.int 0, .int 1])))
 (sSeq (sFor (.nm 4) (gRange (aCons (eFlat (eVar 2)) aNil))
 (sSet 3 (eCall d_plus [] (aCons (eVar 3) (aCons (eCall d_times [] (aCons (eCall d_whole [] (aCons (eBin dSub (eVar 2) (eVar 4)) aNil)) (aCons (eCall d_times [] (aCons (eBin dIx (eVar 0) (eVar 4)) (aCons (eBin dIx (eVar 1) (eBin dSub (eVar 2) (eVar 4))) aNil))) aNil))) aNil)))))
 (sRet (eCall d_over [] (aCons (eVar 3) (aCons (eCall d_whole [] (aCons (eVar 2) aNil)) aNil))))))
noncomputable def d_further_term : List D → FR := fnD 3 []
 (sSeq (sIf (tOf (eBin dEq (eBin dIx (eVar 0) (eC (.int 0))) (eC (.str "source"))))
 (sRet (eIf (tOf (eBin dEq (eVar 2) (eC (.int 1)))) (eC (.tup [.int 1, .int 1])) (eC (.tup [.int 0, .int 1]))))
 sSkip)
 (sSeq (sIf (tOf (eBin dEq (eBin dIx (eVar 0) (eC (.int 0))) (eC (.str "gear"))))
 (sRet (eCall d_times [] (aCons (eBin dIx (eVar 0) (eC (.int 2))) (aCons (eBin dIx (eBin dIx (eVar 1) (eBin dIx (eVar 0) (eC (.int 3)))) (eVar 2)) aNil))))
 sSkip)
 (sSeq (sIf (tOf (eBin dEq (eBin dIx (eVar 0) (eC (.int 0))) (eC (.str "adder"))))
 (sRet (eCall d_plus [] (aCons (eBin dIx (eBin dIx (eVar 1) (eBin dIx (eVar 0) (eC (.int 2)))) (eVar 2)) (aCons (eBin dIx (eBin dIx (eVar 1) (eBin dIx (eVar 0) (eC (.int 3)))) (eVar 2)) aNil))))
 sSkip)
 (sRet (eCall d_term_along [] (aCons (eBin dIx (eVar 1) (eBin dIx (eVar 0) (eC (.int 2)))) (aCons (eBin dIx (eVar 1) (eBin dIx (eVar 0) (eC (.int 3)))) (aCons (eVar 2) aNil))))))))
noncomputable def d_drives_of : List D → FR := fnD 1 []
 (sSeq (sIf (tOf (eBin dEq (eBin dIx (eVar 0) (eC (.int 0))) (eC (.str "source"))))
 (sRet (eLst aNil))
 sSkip)
 (sSeq (sIf (tOf (eBin dEq (eBin dIx (eVar 0) (eC (.int 0))) (eC (.str "adder"))))
 (sRet (eLst (aCons (eFlat (eBin dIx (eVar 0) (eC (.int 2)))) (aCons (eFlat (eBin dIx (eVar 0) (eC (.int 3)))) aNil))))
 sSkip)
 (sRet (eLst (aCons (eFlat (eBin dIx (eVar 0) (eC (.int 3)))) aNil)))))
noncomputable def d_may_stand : List D → FR := fnD 3 []
 (sRet (eCall1 fAll (aCons (eLc (.nm 2) [] (gList (eCall d_drives_of [] (aCons (eVar 0) aNil))) tYesD (eBin dInD (eVar 2) (eVar 1))) aNil)))
noncomputable def d_order_of : List D → FR := fnD 5 []
 (sSeq (sSet 1 eDNew)
 (sSeq (sSet 2 (eC (.bl true)))
 (sSeq (sWhile (tTru (eVar 2))
 (sSeq (sSet 3 (eLc (.nm 4) [] (gRange (aCons (eCall1 fLen (aCons (eVar 0) aNil)) aNil)) (tAndD (tOf (eBin dNotInD (eVar 4) (eVar 1))) (tTru (eCall d_may_stand [] (aCons (eBin dIx (eVar 0) (eVar 4)) (aCons (eVar 1) aNil))))) (eFlat (eVar 4))))
 (sSeq (sSet 2 (eBin dNe (eVar 3) (eLst aNil)))
 (sIf (tTru (eVar 2))
 (sSetD 1 (eC (.bl true)) (eBin dIx (eVar 3) (eC (.int 0))))
 sSkip))))
 (sRet (eUn fKeys (eVar 1))))))
noncomputable def d_series_of : List D → FR := fnD 7 []
 (sSeq (sSet 2 (eCall d_order_of [] (aCons (eVar 0) aNil)))
 (sSeq (sSet 3 (eLc (.nm 6) [] (gList (eVar 0)) tYesD (eLst (aCons (eFlat (eBin dIx (eVar 6) (eC (.int 1)))) aNil))))
 (sSeq (sFor (.nm 4) (gRange (aCons (eC (.int 1)) (aCons (eFlat (eVar 1)) aNil)))
 (sFor (.nm 5) (gList (eVar 2))
 (sDrop (eMutIx "list" 3 mAppend (eVar 5) (aCons (eCall d_further_term [] (aCons (eBin dIx (eVar 0) (eVar 5)) (aCons (eVar 3) (aCons (eVar 4) aNil)))) aNil)))))
 (sRetV 3))))
noncomputable def d_worths_of : List D → FR := fnD 7 []
 (sSeq (sSet 3 (eLst aNil))
 (sSeq (sSet 4 (eC (.int 1)))
 (sSeq (sFor (.tp [5, 6]) (gFun fEnum (aCons (eBin dIx (eCall d_series_of [] (aCons (eVar 0) (aCons (eVar 2) aNil))) (eVar 1)) aNil))
 (sSeq (sSet 4 (eBin dMul (eVar 4) (eCall1 fMax2 (aCons (eC (.int 1)) (aCons (eVar 5) aNil)))))
 (sDrop (eMut "list" 3 mAppend (aCons (eCall d_times [] (aCons (eCall d_whole [] (aCons (eVar 4) aNil)) (aCons (eVar 6) aNil))) aNil)))))
 (sRetV 3))))
noncomputable def d_square_of : List D → FR := fnD 3 []
 (sRet (eCall d_square_from [] (aCons (eCall d_worths_of [] (aCons (eVar 0) (aCons (eVar 1) (aCons (eBin dAdd (eBin dMul (eC (.int 2)) (eVar 2)) (eC (.int 1))) aNil)))) (aCons (eVar 2) aNil))))
noncomputable def d_fewest : List D → FR := fnD 3 []
 (sSeq (sDrop (eCall d_look_even [] (aCons (eVar 0) aNil)))
 (sSeq (sSet 2 (eCall1 fLen (aCons (eCall d_discs_of [] (aCons (eVar 0) aNil)) aNil)))
 (sSeq (sWhile (tOf (eBin dEq (eCall d_determinant [] (aCons (eCall d_square_of [] (aCons (eVar 0) (aCons (eVar 1) (aCons (eVar 2) aNil)))) aNil)) (eC (.tup [.int 0, .int 1]))))
 (sSet 2 (eBin dSub (eVar 2) (eC (.int 1)))))
 (sRet (eFlat (eVar 2))))))
noncomputable def d_law : List D → FR := fnD 8 []
 (sSeq (sFor (.nm 1) (gRange (aCons (eCall1 fMax2 (aCons (eC (.int 1)) (aCons (eCall1 fMin2 (aCons (eC (.int 4)) (aCons (eCall1 fLen (aCons (eVar 0) aNil)) aNil))) aNil))) aNil))
 (sSeq (sSet 2 (eCall d__law_bag [] (aCons (eVar 0) (aCons (eVar 1) aNil))))
 (sFor (.tp [3, 4, 5]) (gList (eLst (aCons (eCall d__law_chain [2] (aSlot 2 aNil)) (aCons (eCall d__law_growing [2] (aSlot 2 aNil)) (aCons (eCall d__law_circling [2] (aSlot 2 aNil)) aNil)))))
 (sSeq (sIf (tOf (eBin dNe (eCall d_fewest [] (aCons (eCall1 fListOf (aCons (eVar 3) aNil)) (aCons (eVar 4) aNil))) (eVar 5)))
 (sRet (eC (.bl false)))
 sSkip)
 (sSeq (sUnpT [6, 7] (eCall d__law_renamed [2] (aSlot 2 (aCons (eVar 3) (aCons (eVar 4) aNil)))))
 (sIf (tOf (eBin dNe (eCall d_fewest [] (aCons (eCall1 fListOf (aCons (eVar 6) aNil)) (aCons (eVar 7) aNil))) (eVar 5)))
 (sRet (eC (.bl false)))
 sSkip))))))
 (sRet (eC (.bl true))))
end Law

namespace Law
open PySem PySem.Spec PySem.SeqAt PyProof.Rows L2 Ow
local macro_rules
  | `(tactic| simp only [EV0, $xs,*] $[$loc]?) => `(tactic| simp only [a_fnD, a_seq, a_skip, a_retV, a_retN, a_brk, a_cnt, a_raise, a_var, a_c, a_nil, o_some, soO_some, bnd_nxt, bnd_ret, bnd_exc, $xs,*] $[$loc]?)
  | `(tactic| simp only [EV0] $[$loc]?) => `(tactic| simp only [a_fnD, a_seq, a_skip, a_retV, a_retN, a_brk, a_cnt, a_raise, a_var, a_c, a_nil, o_some, soO_some, bnd_nxt, bnd_ret, bnd_exc] $[$loc]?)
local macro_rules
  | `(tactic| simp only [EV1, $xs,*] $[$loc]?) => `(tactic| simp only [EV0, bnd_brk, bnd_cnt, er_ret, er_exc, fin_nxt, fin_ret, fin_exc, ifK_x, ifK_t, ifK_f, retK1_x, retK1_o, setK_x, setK_o, dropK1_x, dropK1_o, $xs,*] $[$loc]?)
  | `(tactic| simp only [EV1] $[$loc]?) => `(tactic| simp only [EV0, bnd_brk, bnd_cnt, er_ret, er_exc, fin_nxt, fin_ret, fin_exc, ifK_x, ifK_t, ifK_f, retK1_x, retK1_o, setK_x, setK_o, dropK1_x, dropK1_o] $[$loc]?)
local macro_rules
  | `(tactic| simp only [EV2, $xs,*] $[$loc]?) => `(tactic| simp only [EV1, parK1_x, parK1_o, setix3_x, setix4_s, setix3_o, unpK_x, unpK_o, forK_x, forK_o, bin3_x, bin3_o, un2_x, un2_o, cons3_x, cons3_o, slot2_x, $xs,*] $[$loc]?)
  | `(tactic| simp only [EV2] $[$loc]?) => `(tactic| simp only [EV1, parK1_x, parK1_o, setix3_x, setix4_s, setix3_o, unpK_x, unpK_o, forK_x, forK_o, bin3_x, bin3_o, un2_x, un2_o, cons3_x, cons3_o, slot2_x] $[$loc]?)
local macro_rules
  | `(tactic| simp only [EV3, $xs,*] $[$loc]?) => `(tactic| simp only [EV2, slot2_o, tup2_x, tup2_o, lst2_x, lst2_o, c12_x, c12_o, call2_x, call2_o, flat2_x, flat2_i, flat2_b, flat2_s, flat2_n, flatL2_x, tof2_x, $xs,*] $[$loc]?)
  | `(tactic| simp only [EV3] $[$loc]?) => `(tactic| simp only [EV2, slot2_o, tup2_x, tup2_o, lst2_x, lst2_o, c12_x, c12_o, call2_x, call2_o, flat2_x, flat2_i, flat2_b, flat2_s, flat2_n, flatL2_x, tof2_x] $[$loc]?)
local macro_rules
  | `(tactic| simp only [EV4, $xs,*] $[$loc]?) => `(tactic| simp only [EV3, tof2_o, tru2_x, tru2_o, tnot2_x, tnot2_o, tand2_x, tand2_t, tand2_f, tor2_x, tor2_t, tor2_f, and2_x, and2_t, and2_f, or2_x, or2_t, $xs,*] $[$loc]?)
  | `(tactic| simp only [EV4] $[$loc]?) => `(tactic| simp only [EV3, tof2_o, tru2_x, tru2_o, tnot2_x, tnot2_o, tand2_x, tand2_t, tand2_f, tor2_x, tor2_t, tor2_f, and2_x, and2_t, and2_f, or2_x, or2_t] $[$loc]?)
local macro_rules
  | `(tactic| simp only [EV5, $xs,*] $[$loc]?) => `(tactic| simp only [EV4, or2_f, eif2_x, eif2_t, eif2_f, isx2_x, meth3_x, meth3_o, mut2_x, mut3_s, mut2_o, list2_x, list2_l, list2_f, gtup2_x, gtup2_o, rng2_x, $xs,*] $[$loc]?)
  | `(tactic| simp only [EV5] $[$loc]?) => `(tactic| simp only [EV4, or2_f, eif2_x, eif2_t, eif2_f, isx2_x, meth3_x, meth3_o, mut2_x, mut3_s, mut2_o, list2_x, list2_l, list2_f, gtup2_x, gtup2_o, rng2_x] $[$loc]?)
local macro_rules
  | `(tactic| simp only [EV6, $xs,*] $[$loc]?) => `(tactic| simp only [EV5, rng2_o, bin2_x, bin2_o, cons2_x, cons2_o, setix2_x, setix2_o, meth2_x, meth2_l, a_if, a_ret, a_set, a_drop, a_setix, a_unp, a_for, $xs,*] $[$loc]?)
  | `(tactic| simp only [EV6] $[$loc]?) => `(tactic| simp only [EV5, rng2_o, bin2_x, bin2_o, cons2_x, cons2_o, setix2_x, setix2_o, meth2_x, meth2_l, a_if, a_ret, a_set, a_drop, a_setix, a_unp, a_for] $[$loc]?)
local macro_rules
  | `(tactic| simp only [EV7, $xs,*] $[$loc]?) => `(tactic| simp only [EV6, a_bin, a_un, a_cons, a_slot, a_tup, a_lst, a_flat, a_flatL, a_call1, a_call, a_tof, a_tru, a_tnot, a_tand, a_tor, a_and, $xs,*] $[$loc]?)
  | `(tactic| simp only [EV7] $[$loc]?) => `(tactic| simp only [EV6, a_bin, a_un, a_cons, a_slot, a_tup, a_lst, a_flat, a_flatL, a_call1, a_call, a_tof, a_tru, a_tnot, a_tand, a_tor, a_and] $[$loc]?)
local macro_rules
  | `(tactic| simp only [EV8, $xs,*] $[$loc]?) => `(tactic| simp only [EV7, a_or, a_eif, a_isx, a_meth, a_grange, a_glist, a_gtup, a_par, mut1_t, a_mut, isTy_ll, a_try, hdl_nxt, hdl_ret, noExc_ret, noExc_nxt, $xs,*] $[$loc]?)
  | `(tactic| simp only [EV8] $[$loc]?) => `(tactic| simp only [EV7, a_or, a_eif, a_isx, a_meth, a_grange, a_glist, a_gtup, a_par, mut1_t, a_mut, isTy_ll, a_try, hdl_nxt, hdl_ret, noExc_ret, noExc_nxt] $[$loc]?)
local macro_rules
  | `(tactic| simp only [EV9, $xs,*] $[$loc]?) => `(tactic| simp only [EV8, putOuts, add_ii, sub_ii, lt_ii, le_ii, gt_ii, ge_ii, eq_ii, ne_ii, abs_i, int_i, int_b, len_t, len_l, len_f, max_ii, $xs,*] $[$loc]?)
  | `(tactic| simp only [EV9] $[$loc]?) => `(tactic| simp only [EV8, putOuts, add_ii, sub_ii, lt_ii, le_ii, gt_ii, ge_ii, eq_ii, ne_ii, abs_i, int_i, int_b, len_t, len_l, len_f, max_ii] $[$loc]?)
local macro_rules
  | `(tactic| simp only [EV10, $xs,*] $[$loc]?) => `(tactic| simp only [EV9, min_ii, not_b, neg_i, ix_t0, ix_t1, ix_l0, D.truth, List.getD_cons_zero, List.getD_cons_succ, List.set_cons_zero, List.set_cons_succ, List.cons_append, List.nil_append, List.append_nil, List.length_cons, List.length_nil, $xs,*] $[$loc]?)
  | `(tactic| simp only [EV10] $[$loc]?) => `(tactic| simp only [EV9, min_ii, not_b, neg_i, ix_t0, ix_t1, ix_l0, D.truth, List.getD_cons_zero, List.getD_cons_succ, List.set_cons_zero, List.set_cons_succ, List.cons_append, List.nil_append, List.append_nil, List.length_cons, List.length_nil] $[$loc]?)
local macro_rules
  | `(tactic| simp only [EV11, $xs,*] $[$loc]?) => `(tactic| simp only [EV10, List.replicate_succ, List.replicate_zero, List.map_cons, List.map_nil, Option.map_some, Nat.reduceAdd, Nat.reduceSub, if_true, if_false, Bool.false_eq_true, Bool.not_true, Bool.not_false, decide_true, decide_false, not_true_eq_false, not_false_eq_true, $xs,*] $[$loc]?)
  | `(tactic| simp only [EV11] $[$loc]?) => `(tactic| simp only [EV10, List.replicate_succ, List.replicate_zero, List.map_cons, List.map_nil, Option.map_some, Nat.reduceAdd, Nat.reduceSub, if_true, if_false, Bool.false_eq_true, Bool.not_true, Bool.not_false, decide_true, decide_false, not_true_eq_false, not_false_eq_true] $[$loc]?)
local macro_rules
  | `(tactic| simp only [EV12, $xs,*] $[$loc]?) => `(tactic| simp only [EV11, eq_self, ne_eq, a_tyes, a_lc, lcF_0, a_gfun, gf2_o, zip_ll, zip_tt, enum_l, rev_l, all_true, listOf_l, listOf_t, tupOf_l, tupOf_t, $xs,*] $[$loc]?)
  | `(tactic| simp only [EV12] $[$loc]?) => `(tactic| simp only [EV11, eq_self, ne_eq, a_tyes, a_lc, lcF_0, a_gfun, gf2_o, zip_ll, zip_tt, enum_l, rev_l, all_true, listOf_l, listOf_t, tupOf_l, tupOf_t] $[$loc]?)
local macro_rules
  | `(tactic| simp only [EV, $xs,*] $[$loc]?) => `(tactic| simp only [EV12, clear_l, bl_eq, bl_ne, a_sl, sl2_o, sl3_o, sl4_o, a_onone, a_osome, os2_o, slL_l, slT_t, $xs,*] $[$loc]?)
  | `(tactic| simp only [EV] $[$loc]?) => `(tactic| simp only [EV12, clear_l, bl_eq, bl_ne, a_sl, sl2_o, sl3_o, sl4_o, a_onone, a_osome, os2_o, slL_l, slT_t] $[$loc]?)
local macro_rules
  | `(tactic| simp only [EW, $xs,*] $[$loc]?) => `(tactic| simp only [EV, a_dnew, a_setd, setd2_o, setd3_o, setd4_s, a_unpl, unpl2_l, setMany_c, setMany_n, a_chain, chn2_o, chn3_o, chn4_t, chn4_f, $xs,*] $[$loc]?)
  | `(tactic| simp only [EW] $[$loc]?) => `(tactic| simp only [EV, a_dnew, a_setd, setd2_o, setd3_o, setd4_s, a_unpl, unpl2_l, setMany_c, setMany_n, a_chain, chn2_o, chn3_o, chn4_t, chn4_f] $[$loc]?)
local macro_rules
  | `(tactic| simp only [EX, $xs,*] $[$loc]?) => `(tactic| simp only [EW, a_dnewT, a_getT, gt2_d, gt3_o, gt4_o, a_ixT, it2_d, it3_o, a_setT, st2_o, st3_o, a_keysT, ky2_d, $xs,*] $[$loc]?)
  | `(tactic| simp only [EX] $[$loc]?) => `(tactic| simp only [EW, a_dnewT, a_getT, gt2_d, gt3_o, gt4_o, a_ixT, it2_d, it3_o, a_setT, st2_o, st3_o, a_keysT, ky2_d] $[$loc]?)
local macro_rules
  | `(tactic| simp only [EY, $xs,*] $[$loc]?) => `(tactic| simp only [EX, a_setfld, setfldK_o, a_make, makeK_o, mk2_r, a_gins, ginsK_o, gins2_t, a_callS, callS2_t, a_par3, par3K_o, $xs,*] $[$loc]?)
  | `(tactic| simp only [EY] $[$loc]?) => `(tactic| simp only [EX, a_setfld, setfldK_o, a_make, makeK_o, mk2_r, a_gins, ginsK_o, gins2_t, a_callS, callS2_t, a_par3, par3K_o] $[$loc]?)
local macro_rules
  | `(tactic| simp only [EZ, $xs,*] $[$loc]?) => `(tactic| simp only [EY, a_tryM, catch2_nxt, catch2_ret, catch2_exc, a_raiseF, raise2_o, a_xf, $xs,*] $[$loc]?)
  | `(tactic| simp only [EZ] $[$loc]?) => `(tactic| simp only [EY, a_tryM, catch2_nxt, catch2_ret, catch2_exc, a_raiseF, raise2_o, a_xf] $[$loc]?)
theorem take_eq {k n : Int} {b : D} (h : Bag k b) (hk : k < 2 ^ 20) (hn : 0 < n) (hn2 : n < 2 ^ 64) : ∃ r b', d__law_take [b, .int n] = .ret (.int r) [b'] ∧ 0 ≤ r ∧ r < n ∧ Bag (k + 1) b' := by
  obtain ⟨B, S, T, rfl, h1, h2, h3, h4, h5⟩ := h
  have fn : ∀ z : Int, dMod (.int z) (.int n) = some (.int (z % n)) := fun z => mod_ii hn
  by_cases hB : 0 < B
  · refine ⟨B % n, _, ?_, (emod_lt' B hn).1, (emod_lt' B hn).2, B / n, S, T, rfl, Int.ediv_nonneg (by omega) (by omega), h2, h3, h4, by omega⟩
    have dn : dDiv (.int B) (.int n) = some (.int (B / n)) := div_ii hn (lt64_9000 (by omega))
    unfold d__law_take
    simp only [EV, ix3_0, hB, fn, dn, six3_0]
  · obtain ⟨U, hU⟩ : ∃ U, T + 1 = U := ⟨_, rfl⟩
    have hU1 : 0 ≤ U ∧ U ≤ 2 ^ 20 := by omega
    obtain ⟨p, hp, hp1, hp2⟩ := prime_at (U % 8) (emod_lt' U (by omega)).1 (emod_lt' U (by omega)).2
    obtain ⟨q, hq, hq1, hq2⟩ := prime_at ((U + 3) % 8) (emod_lt' _ (by omega)).1 (emod_lt' _ (by omega)).2
    have b1 : 0 ≤ (S + 1) * (2 * U + 3) := Int.mul_nonneg (by omega) (by omega)
    have b2 : (S + 1) * (2 * U + 3) ≤ 2 ^ 32 * (2 * 2 ^ 20 + 3) := Int.mul_le_mul (by omega) (by omega) (by omega) (by omega)
    have b3 : 0 ≤ 6007 * U * U := Int.mul_nonneg (by omega) (by omega)
    have b4 : 6007 * U * U ≤ 6007 * 2 ^ 20 * 2 ^ 20 := Int.mul_le_mul (by omega) (by omega) (by omega) (by omega)
    have m1 := mul_ii (mulOk_l (i := S + 1) (j := 2 * U + 3) (by omega) (by omega))
    have m2 := mul_ii (mulOk_l (i := 2) (j := U) (by omega) (by omega))
    have m3 := mul_ii (mulOk_l (i := 6007) (j := U) (by omega) (by omega))
    have m4 := mul_ii (mulOk_r (i := 6007 * U) (j := U) (by omega) (by omega))
    obtain ⟨base, hb⟩ : ∃ z, (S + 1) * (2 * U + 3) + 6007 * U * U = z := ⟨_, rfl⟩
    have m5 := pow_3 (i := base) (by omega)
    obtain ⟨here, hh⟩ : ∃ z, base ^ 3 % p = z := ⟨_, rfl⟩
    have hh1 := emod_lt' (base ^ 3) hp1
    rw [hh] at hh1
    have m6 := mul_ii (mulOk_l (i := here) (j := here / 8192 + 11) (by omega) (by omega))
    have fp : ∀ z : Int, dMod (.int z) (.int p) = some (.int (z % p)) := fun z => mod_ii hp1
    have fq : ∀ z : Int, dMod (.int z) (.int q) = some (.int (z % q)) := fun z => mod_ii hq1
    have f8 : ∀ z : Int, dMod (.int z) (.int 8) = some (.int (z % 8)) := fun z => mod_ii (by omega)
    have d1 : ∀ z : Int, dDiv (.int z) (.int 8192) = some (.int (z / 8192)) := fun z => div_ii (by omega) (lt64_9000 (by omega))
    have d2 : ∀ z : Int, dDiv (.int z) (.int 32) = some (.int (z / 32)) := fun z => div_ii (by omega) (lt64_9000 (by omega))
    refine ⟨here * (here / 8192 + 11) % q / 32 % n, _, ?_, (emod_lt' _ hn).1, (emod_lt' _ hn).2, B, S, U, rfl, h1, h2, h3, by omega, by omega⟩
    unfold d__law_take
    simp only [EV, ix3_0, ix3_1, ix3_2, hB, hU, six3_2, m1, m2, m3, m4, hb, m5, f8, hp, hq, fp, fq, fn, hh, d1, d2, m6]
theorem bag_eq (ns : List Int) (at_ : Nat) (hat : at_ ≤ 100) : ∃ b, d__law_bag [.fzl (ns.map D.int), .int at_] = .ret b [] ∧ Bag 0 b := by
  have m1 := mul_ii (mulOk_l (i := 5081) (j := at_) (by omega) (by omega))
  have m2 := mul_ii (mulOk_l (i := 40009) (j := at_) (by omega) (by omega))
  have m3 : ∀ (i : Int) (b : Bool), dMul (.int i) (.int (if b = true then 1 else 0)) = some (.int (i * (if b = true then 1 else 0))) := fun i b => mul_ii (mulOk_r (by split <;> omega) (by split <;> omega))
  have m4 : ∀ i : Int, dMod (.int i) (.int 2147483587) = some (.int (i % 2147483587)) := fun i => mod_ii (by omega)
  by_cases hl : (at_ : Int) < ((ns.map D.int).length : Nat)
  · have hl' : at_ < ns.length := by rw [List.length_map] at hl; omega
    have hx : dIx (.fzl (ns.map D.int)) (.int (at_ : Int)) = some (.int ns[at_]) := ix_fN (by rw [List.getElem?_map, List.getElem?_eq_getElem hl']; rfl)
    refine ⟨_, ?_, bag_fin ns[at_] at_ (decide (1000000000000000000 ≤ (ns[at_].natAbs : Int))) (by omega) (by omega)⟩
    unfold d__law_bag
    simp only [EV, m1, hl, hx, dPow_18, m2, m3, m4]
  · refine ⟨_, ?_, bag_fin (5081 * at_ + 3) at_ (decide (1000000000000000000 ≤ ((5081 * (at_ : Int) + 3).natAbs : Int))) (by omega) (by omega)⟩
    unfold d__law_bag
    simp only [EV, m1, hl, dPow_18, m2, m3, m4]
theorem str_gs : dEq (.str "gear") (.str "source") = some (.bl false) := name_src (.gear 0 0 0)
theorem str_as : dEq (.str "adder") (.str "source") = some (.bl false) := name_src (.adder 0 0 0)
theorem str_ds : dEq (.str "disc") (.str "source") = some (.bl false) := name_src (.disc 0 0 0)
theorem str_ss : dEq (.str "source") (.str "source") = some (.bl true) := name_src (.source 0)
theorem str_ga : dEq (.str "gear") (.str "adder") = some (.bl false) := (eq_ss (a := "gear") (b := "adder") (name_ok (.gear 0 0 0)) (name_ok (.adder 0 0 0))).trans rfl
theorem str_aa : dEq (.str "adder") (.str "adder") = some (.bl true) := (eq_ss (a := "adder") (b := "adder") (name_ok (.adder 0 0 0)) (name_ok (.adder 0 0 0))).trans rfl
theorem str_da : dEq (.str "disc") (.str "adder") = some (.bl false) := (eq_ss (a := "disc") (b := "adder") (name_ok (.disc 0 0 0)) (name_ok (.adder 0 0 0))).trans rfl
theorem listI (l : List Nat) (σ : List D) : list2 (.ok (nats l) σ) = .ok (l.map fun (i : Nat) => D.int (i : Int)) σ := list2_l
theorem drives_eq (r : MRow) : d_drives_of [encR r] = .ret (nats r.drv) [] := by
  cases r with
  | source s =>
    show d_drives_of [.tup [.str "source", enc s]] = .ret (.lst []) []
    unfold d_drives_of
    simp only [EW, str_ss]
  | gear s r k =>
    have i3 : dIx (.tup [.str "gear", enc s, enc r, .int k]) (.int 3) = some (.int k) := ix_tN (n := 3) rfl
    show d_drives_of [.tup [.str "gear", enc s, enc r, .int k]] = .ret (.lst [.int k]) []
    unfold d_drives_of
    simp only [EW, str_gs, str_ga, i3]
  | adder s a b =>
    have i2 : dIx (.tup [.str "adder", enc s, .int a, .int b]) (.int 2) = some (.int a) := ix_tN (n := 2) rfl
    have i3 : dIx (.tup [.str "adder", enc s, .int a, .int b]) (.int 3) = some (.int b) := ix_tN (n := 3) rfl
    show d_drives_of [.tup [.str "adder", enc s, .int a, .int b]] = .ret (.lst [.int a, .int b]) []
    unfold d_drives_of
    simp only [EW, str_as, str_aa, i2, i3]
  | disc s w k =>
    have i3 : dIx (.tup [.str "disc", enc s, .int w, .int k]) (.int 3) = some (.int k) := ix_tN (n := 3) rfl
    show d_drives_of [.tup [.str "disc", enc s, .int w, .int k]] = .ret (.lst [.int k]) []
    unfold d_drives_of
    simp only [EW, str_ds, str_da, i3]
theorem may_eq (r : MRow) (st : List Nat) : d_may_stand [encR r, stD st] = .ret (.bl (r.drv.all fun d => decide (d ∈ st))) [] := by
  obtain ⟨σ', e, x, rfl⟩ := lcL_mapG (T := .nm 2) (ge := eBin dInD (eVar 2) (eVar 1)) (fun i : Nat => D.int (i : Int)) (fun i : Nat => D.bl (decide (i ∈ st))) (fun σ => ∃ x, σ = [encR r, stD st, x]) r.drv [encR r, stD st, .non] ⟨_, rfl⟩ (by
    rintro i _ σ ⟨x, rfl⟩
    refine ⟨[encR r, stD st, .int i], [encR r, stD st, .int i], rfl, ?_, _, rfl⟩
    simp only [EW, st_in])
  have hl : (r.drv.map fun (i : Nat) => D.int (i : Int)).length ≤ sizeLine := lc_small (by rw [List.length_map]; cases r <;> simp [MRow.drv])
  have ha := all_bls (fun i : Nat => decide (i ∈ st)) r.drv
  unfold d_may_stand
  simp only [EW, drives_eq, listI, lc2_0 hl, e, ha]
theorem rdy_comp {m : List MRow} (hm : m.length ≤ 5000) (st : List Nat) (x y z : D) : ∃ z', lcL (.nm 4) (tAndD (tOf (eBin dNotInD (eVar 4) (eVar 1))) (tTru (eCall d_may_stand [] (aCons (eBin dIx (eVar 0) (eVar 4)) (aCons (eVar 1) aNil))))) (eFlat (eVar 4)) (rngD 0 m.length) [] [encM m, stD st, x, y, z] = .ok ((rdy m st).map fun (i : Nat) => D.int (i : Int)) [encM m, stD st, x, y, z'] := by
  obtain ⟨σ', e, z', rfl⟩ := lcL_filterG (T := .nm 4) (gt := tAndD (tOf (eBin dNotInD (eVar 4) (eVar 1))) (tTru (eCall d_may_stand [] (aCons (eBin dIx (eVar 0) (eVar 4)) (aCons (eVar 1) aNil))))) (ge := eFlat (eVar 4)) (fun i : Nat => D.int (i : Int)) (fun i : Nat => D.int (i : Int)) (fun i => !decide (i ∈ st) && (drvs m i).all fun d => decide (d ∈ st)) (fun σ => ∃ z, σ = [encM m, stD st, x, y, z]) (List.range m.length) [encM m, stD st, x, y, z] ⟨z, rfl⟩ (by
    rintro i hi σ ⟨z, rfl⟩
    have hi := List.mem_range.mp hi
    refine ⟨[encM m, stD st, x, y, .int i], [encM m, stD st, x, y, .int i], rfl, ?_, ⟨_, rfl⟩, fun _ => ⟨[encM m, stD st, x, y, .int i], ?_, _, rfl⟩⟩
    · by_cases h : i ∈ st
      · simp only [EW, st_notin, h, Bool.false_and]
      · simp only [EW, st_notin, h, ixM hi, may_eq, Bool.true_and, drvs]
    · simp only [EW])
  rw [← rng0] at e
  exact ⟨z', e⟩
theorem order_eq {m : List MRow} (hm : Mach m) (h5 : m.length ≤ 5000) : d_order_of [encM m] = .ret (nats (ordN m m.length)) [] := by
  have hr := rngN m.length (by omega)
  have hl : (rngD 0 m.length).length ≤ sizeLine := lc_small (by rw [rngD_len]; omega)
  unfold d_order_of
  generalize hG : (sSeq (sSet 3 _) _) = G
  have body : ∀ (j : Nat) (y z : D), j ≤ m.length → ∃ z', G [encM m, stD (ordN m j), .bl true, y, z] = .nxt [encM m, stD (ordN m (j + 1)), .bl (!(rdy m (ordN m j)).isEmpty), nats (rdy m (ordN m j)), z'] := by
    intro j y z hj
    obtain ⟨z', e⟩ := rdy_comp h5 (ordN m j) (.bl true) y z
    obtain ⟨o1, o2, o3⟩ := ordN_ok hm j hj
    have ne := nats_ne (rdy m (ordN m j))
    refine ⟨z', ?_⟩
    subst hG
    cases hc : rdy m (ordN m j) with
    | nil =>
      have ho : ordN m (j + 1) = ordN m j := by
        show ordN m j ++ _ = _
        rw [hc]; simp
      rw [hc] at e ne
      have ne : dNe (.lst (List.map (fun (i : Nat) => D.int (i : Int)) ([] : List Nat))) (.lst []) = some (.bl false) := ne
      rw [ho]
      simp only [EW, lenM, hr, lc2_0 hl, e, ne]
      rfl
    | cons a l =>
      have ho : ordN m (j + 1) = ordN m j ++ [a] := by
        show ordN m j ++ _ = _
        rw [hc]; rfl
      have ha : a ∈ rdy m (ordN m j) := by rw [hc]; simp
      rw [mem_rdy] at ha
      rw [hc] at e ne
      have ne : dNe (.lst ((a :: l).map fun (i : Nat) => D.int (i : Int))) (.lst []) = some (.bl true) := ne
      have ix : dIx (.lst ((a :: l).map fun (i : Nat) => D.int (i : Int))) (.int 0) = some (.int a) := nats_ix (i := 0) rfl
      have pt := st_put (ordN m j) a ha.2.1 (by omega)
      rw [ho]
      simp only [List.map_cons] at e ne ix
      simp only [EW, lenM, hr, lc2_0 hl, e, ne, ix, pt]
      rfl
  have key : ∀ (q j : Nat) (y z : D), j + q = m.length → ∃ (k : Nat) (y' z' : D), whileN (tTru (eVar 2)) G k [encM m, stD (ordN m j), .bl true, y, z] = .nxt [encM m, stD (ordN m m.length), .bl false, y', z'] := by
    intro q
    induction q with
    | zero =>
      intro j y z hj
      have : j = m.length := by omega
      subst this
      obtain ⟨z', e⟩ := body m.length y z (Nat.le_refl _)
      have ho : ordN m (m.length + 1) = ordN m m.length := by
        show ordN m m.length ++ _ = _
        rw [rdy_end hm]; simp
      rw [ho, rdy_end hm] at e
      have e0 : (!([] : List Nat).isEmpty) = false := rfl
      rw [e0] at e
      refine ⟨2, nats [], z', whileN_step (σ1 := [encM m, stD (ordN m m.length), .bl true, y, z]) ?_ e (whileN_end (σ1 := [encM m, stD (ordN m m.length), .bl false, nats [], z']) ?_)⟩
      · simp only [EW]
      · simp only [EW]
    | succ q ih =>
      intro j y z hj
      obtain ⟨z', e⟩ := body j y z (by omega)
      obtain ⟨o1, o2, o3⟩ := ordN_ok hm j (by omega)
      have hne : (rdy m (ordN m j)).isEmpty = false := by
        rw [Bool.eq_false_iff]
        intro h
        exact rdy_some hm o2 o3 (by omega) (List.isEmpty_iff.mp h)
      rw [hne] at e
      obtain ⟨k, y', z'', e2⟩ := ih (j + 1) (nats (rdy m (ordN m j))) z' (by omega)
      refine ⟨k + 1, y', z'', whileN_step (σ1 := [encM m, stD (ordN m j), .bl true, y, z]) ?_ e e2⟩
      simp only [EW]
  obtain ⟨k, y', z', e⟩ := key m.length 0 .non .non (by omega)
  have e := sWhile_of e
  have st0 : D.dK [] = stD (ordN m 0) := rfl
  simp only [EW, st0, e, st_keys]
theorem src_eq (r : MRow) : d_is_source [encR r] = .ret (.bl r.isSrc) [] := by
  unfold d_is_source
  simp only [EW, encR_0, name_src]
theorem discs_eq {m : List MRow} (h5 : m.length ≤ 5000) : d_discs_of [encM m] = .ret (nats (discs m)) [] := by
  have hr := rngN m.length (by omega)
  have hl : (rngD 0 m.length).length ≤ sizeLine := lc_small (by rw [rngD_len]; omega)
  obtain ⟨σ', e, z, rfl⟩ := lcL_filterG (T := .nm 1) (gt := tOf (eBin dEq (eBin dIx (eBin dIx (eVar 0) (eVar 1)) (eC (.int 0))) (eC (.str "disc")))) (ge := eFlat (eVar 1)) (fun i : Nat => D.int (i : Int)) (fun i : Nat => D.int (i : Int)) (fun i => (m.getD i default).isDisc) (fun σ => ∃ z, σ = [encM m, z]) (List.range m.length) [encM m, .non] ⟨_, rfl⟩ (by
    rintro i hi σ ⟨z, rfl⟩
    have hi := List.mem_range.mp hi
    refine ⟨[encM m, .int i], [encM m, .int i], rfl, ?_, ⟨_, rfl⟩, fun _ => ⟨[encM m, .int i], ?_, _, rfl⟩⟩
    · simp only [EW, ixM hi, encR_0, name_disc]
    · simp only [EW])
  rw [← rng0] at e
  unfold d_discs_of
  simp only [EW, lenM, hr, lc2_0 hl, e]
  rfl
theorem row_last (r : MRow) (h : r.isDisc = true) : dIx (encR r) (.int 3) = some (.int r.last) := by
  cases r with
  | disc s w k => exact ix_tN (n := 3) rfl
  | _ => cases h
theorem mem_discs {m : List MRow} {i : Nat} : i ∈ discs m ↔ i < m.length ∧ (m.getD i default).isDisc = true := by
  unfold discs
  simp [List.mem_filter]
theorem last_lt {m : List MRow} (hm : Mach m) {i : Nat} (hi : i ∈ discs m) : (m.getD i default).last < m.length := by
  obtain ⟨h1, h2⟩ := mem_discs.mp hi
  obtain ⟨rk, hrk⟩ := hm.rk
  have := hrk i _ (hm.at h1)
  revert this h2
  cases m.getD i default with
  | disc s w k => exact fun _ h => (h k (by simp [MRow.drv])).1
  | _ => exact fun h => by cases h
theorem even_eq {m : List MRow} (hm : Mach m) (h5 : m.length ≤ 5000) : d_is_even [encM m] = .ret (.bl (evenB m)) [] := by
  obtain ⟨σ', e, z, rfl⟩ := lcL_mapG (T := .nm 1) (ge := eCall d_is_source [] (aCons (eBin dIx (eVar 0) (eBin dIx (eBin dIx (eVar 0) (eVar 1)) (eC (.int 3)))) aNil)) (fun i : Nat => D.int (i : Int)) (fun i : Nat => D.bl ((m.getD (m.getD i default).last default).isSrc)) (fun σ => ∃ z, σ = [encM m, z]) (discs m) [encM m, .non] ⟨_, rfl⟩ (by
    rintro i hi σ ⟨z, rfl⟩
    obtain ⟨h1, h2⟩ := mem_discs.mp hi
    refine ⟨[encM m, .int i], [encM m, .int i], rfl, ?_, ⟨_, rfl⟩⟩
    simp only [EW, ixM h1, row_last _ h2, ixM (last_lt hm hi), src_eq])
  have hl : ((discs m).map fun (i : Nat) => D.int (i : Int)).length ≤ sizeLine := lc_small (by
    rw [List.length_map]
    have := List.length_filter_le (fun i => (m.getD i default).isDisc) (List.range m.length)
    rw [List.length_range] at this
    unfold discs
    omega)
  have ha := all_bls (fun i : Nat => (m.getD (m.getD i default).last default).isSrc) (discs m)
  unfold d_is_even
  simp only [EW, discs_eq h5, listI, lc2_0 hl, e, ha]
  rfl
theorem gcd_loop : ∀ (b a : Nat), ∃ k, whileN (tOf (eBin dGt (eVar 1) (eC (.int 0)))) (sPar 0 1 (aCons (eFlat (eVar 1)) (aCons (eBin dMod (eVar 0) (eVar 1)) aNil))) k [.int a, .int b] = .nxt [.int (Nat.gcd a b : Nat), .int 0] := by
  intro b
  induction b using Nat.strongRecOn with
  | ind b ih =>
    intro a
    by_cases hb : b = 0
    · subst hb
      refine ⟨1, ?_⟩
      rw [Nat.gcd_zero_right]
      refine whileN_end ?_
      simp only [EV]
      rfl
    · have hp : 0 < (b : Int) := by omega
      obtain ⟨k, hk⟩ := ih (a % b) (Nat.mod_lt _ (by omega)) b
      have hm : dMod (.int a) (.int b) = some (.int ((a % b : Nat) : Int)) := mod_ii hp
      refine ⟨k + 1, whileN_step (σ1 := [.int a, .int b]) (σ2 := [.int b, .int ((a % b : Nat) : Int)]) ?_ ?_ ?_⟩
      · simp only [EV, hp]
      · simp only [EV, hm]
      · rw [hk, gcd_swap]
theorem shared_eq (a b : Int) : d_shared [.int a, .int b] = .ret (.int (Int.gcd a b : Nat)) [] := by
  obtain ⟨k, hk⟩ := gcd_loop b.natAbs a.natAbs
  have h := sWhile_of hk
  unfold d_shared
  simp only [EV, h]
  rfl
theorem fraction_eq (a b : Int) (hb : b ≠ 0) (hs : b.natAbs < 2 ^ 9000) : d_fraction [.int a, .int b] = .ret (enc (Rat.divInt a b)) [] := by
  have hg : 0 < ((Int.gcd a b : Nat) : Int) := by have := gcd_pos (a := a) (b := b) hb; omega
  have hle : ((Int.gcd a b : Nat) : Int).natAbs < 2 ^ 9000 := Nat.lt_of_le_of_lt (gcd_le hb) hs
  rcases Int.lt_or_gt_of_ne hb with h | h
  · obtain ⟨h1, h2⟩ := num_den (-a) (-b) (by omega)
    rw [Rat.neg_divInt_neg, show Int.gcd (-a) (-b) = Int.gcd a b by simp [Int.gcd]] at h1 h2
    have ho : divOk (0 - ((Int.gcd a b : Nat) : Int)) = true := divOk_lt (by omega) (by rw [Int.zero_sub, Int.natAbs_neg]; exact hle)
    have f1 : dDiv (.int a) (.int (0 - ((Int.gcd a b : Nat) : Int))) = some (.int (Rat.divInt a b).num) := by
      unfold dDiv
      dsimp only
      rw [if_pos ho, h1, ← fdiv_gcd hg, Int.zero_sub, ← Int.neg_fdiv_neg (-a), Int.neg_neg]
    have f2 : dDiv (.int b) (.int (0 - ((Int.gcd a b : Nat) : Int))) = some (.int (Rat.divInt a b).den) := by
      unfold dDiv
      dsimp only
      rw [if_pos ho, h2, ← fdiv_gcd hg, Int.zero_sub, ← Int.neg_fdiv_neg (-b), Int.neg_neg]
    unfold d_fraction
    simp only [EV, hb, shared_eq, h, f1, f2]
    rfl
  · obtain ⟨h1, h2⟩ := num_den a b h
    have f1 := div_ii (i := a) hg hle
    have f2 := div_ii (i := b) hg hle
    rw [← h1] at f1
    rw [← h2] at f2
    have h' : ¬ b < 0 := by omega
    unfold d_fraction
    simp only [EV, hb, shared_eq, h', f1, f2]
    rfl
theorem turned_eq {k : Int} {b : D} (h : Bag k b) (hk : k < 2 ^ 18) (n : Nat) (hn : n ≤ 200) : ∃ (p : List Nat) (b' : D), d__law_turned [b, .int n] = .ret (nats p) [b'] ∧ p.Perm (List.range n) ∧ Bag (k + n) b' := by
  have hr := rngN n (by omega)
  have hl := lrng n (by omega)
  obtain ⟨σ', e, h'⟩ := forL_rng (T := .nm 4) (G := sDrop (eMut "list" 3 mAppend (aCons (eMut "list" 2 mPopAt (aCons (eCall d__law_take [0] (aSlot 0 (aCons (eCall1 fLen (aCons (eVar 2) aNil)) aNil))) aNil)) aNil))) n
    (fun j σ => ∃ (d : D) (L P : List Nat) (x : D), σ = [d, .int n, nats L, nats P, x] ∧ (P ++ L).Perm (List.range n) ∧ P.length = j ∧ Bag (k + j) d) [b, .int n, nats (List.range n), nats [], .non] ⟨b, _, _, _, rfl, .refl _, rfl, h.mono (by omega)⟩ (by
    rintro j σ hj ⟨d, L, P, x, rfl, hp, hP, hd⟩
    have hL : L.length = n - j := by
      have := hp.length_eq
      rw [List.length_append, List.length_range] at this
      omega
    obtain ⟨r, d', er, r0, r1, B⟩ := take_eq (n := (L.length : Nat)) hd (by omega) (by omega) (by omega)
    obtain ⟨i, rfl⟩ : ∃ i : Nat, r = i := ⟨r.toNat, by omega⟩
    have hi : i < L.length := by omega
    obtain ⟨y, hy⟩ : ∃ y, L[i]? = some y := ⟨_, List.getElem?_eq_getElem hi⟩
    have q1 := popAt_I hy (by omega)
    have q2 := append_I (l := P) y (by omega)
    refine ⟨[d, .int n, nats L, nats P, .int j], [d', .int n, nats (L.eraseIdx i), nats (P ++ [y]), .int j], rfl, ?_, d', _, _, _, rfl, ?_, by simp [hP], B.mono (by omega)⟩
    · simp only [EW, isTy_I, lenI, er, q1, q2]
    · rw [List.append_assoc]
      exact ((Ow.erase_perm L i y hy).append_left P).trans hp)
  obtain ⟨d, L, P, x, rfl, hp, hP, hd⟩ := h'
  have hL : L = [] := by
    have := hp.length_eq
    rw [List.length_append, List.length_range] at this
    exact List.eq_nil_of_length_eq_zero (by omega)
  subst hL
  rw [List.append_nil] at hp
  refine ⟨P, d, ?_, hp, hd⟩
  unfold d__law_turned
  simp only [EW, hl, nats_nil, hr, e]
theorem cross_d {r q : Rat} {a b : Nat} (hr : sz a r) (hq : sz b q) (h : a + b ≤ 8998) : dMul (.int r.num) (.int q.den) = some (.int (r.num * q.den)) ∧ dMul (.int r.num) (.int q.num) = some (.int (r.num * q.num)) ∧ dMul (.int r.den) (.int q.den) = some (.int (r.den * q.den)) ∧ dMul (.int r.den) (.int q.num) = some (.int (r.den * q.num)) ∧ ((r.den : Int) * q.den).natAbs < 2 ^ 9000 ∧ ((r.den : Int) * q.num).natAbs < 2 ^ 9000 := by
  have hd : ((r.den : Int)).natAbs < 2 ^ a := by rw [Int.natAbs_natCast]; exact hr.2
  have hd2 : ((q.den : Int)).natAbs < 2 ^ b := by rw [Int.natAbs_natCast]; exact hq.2
  obtain ⟨h1, h2, h3, h4⟩ := cross_lt hr hq
  have up : 2 ^ (a + b) ≤ 2 ^ 9000 := Nat.pow_le_pow_right (by omega) (by omega)
  exact ⟨mul_ii (mulOk_b hr.1 hd2 (by omega)), mul_ii (mulOk_b hr.1 hq.1 (by omega)), mul_ii (mulOk_b hd hd2 (by omega)), mul_ii (mulOk_b hd hq.1 (by omega)), Nat.lt_of_lt_of_le h3 up, Nat.lt_of_lt_of_le h4 up⟩
theorem plus_eq {r q : Rat} {a b : Nat} (hr : sz a r) (hq : sz b q) (h : a + b ≤ 8998) : d_plus [enc r, enc q] = .ret (enc (r + q)) [] := by
  obtain ⟨m1, m2, m3, m4, m5, m6⟩ := cross_d hr hq h
  obtain ⟨g1, g2, g3, g4, g5, g6⟩ := cross_d hq hr (by omega)
  have hf := fraction_eq (r.num * q.den + q.num * r.den) (r.den * q.den) (Int.mul_ne_zero (den_ne r) (den_ne q)) m5
  rw [Ow.add_eq] at hf
  unfold d_plus
  simp only [EV, ixE0, ixE1, m1, m3, g1, hf]
theorem times_eq {r q : Rat} {a b : Nat} (hr : sz a r) (hq : sz b q) (h : a + b ≤ 8998) : d_times [enc r, enc q] = .ret (enc (r * q)) [] := by
  obtain ⟨m1, m2, m3, m4, m5, m6⟩ := cross_d hr hq h
  have hf := fraction_eq (r.num * q.num) (r.den * q.den) (Int.mul_ne_zero (den_ne r) (den_ne q)) m5
  rw [Ow.mul_eq] at hf
  unfold d_times
  simp only [EV, ixE0, ixE1, m2, m3, hf]
theorem over_eq {r q : Rat} {a b : Nat} (hr : sz a r) (hq : sz b q) (h : a + b ≤ 8998) (h0 : q ≠ 0) : d_over [enc r, enc q] = .ret (enc (r / q)) [] := by
  obtain ⟨m1, m2, m3, m4, m5, m6⟩ := cross_d hr hq h
  have hf := fraction_eq (r.num * q.den) (r.den * q.num) (Int.mul_ne_zero (den_ne r) (num_ne h0)) m6
  rw [Ow.div_eq _ _ h0] at hf
  unfold d_over
  simp only [EV, ixE0, ixE1, m1, m4, hf]
theorem less_eq {r q : Rat} {a b : Nat} (hr : sz a r) (hq : sz b q) (h : a + b ≤ 8998) : d_less [enc r, enc q] = .ret (enc (r - q)) [] := by
  obtain ⟨m1, m2, m3, m4, m5, m6⟩ := cross_d hr hq h
  obtain ⟨g1, g2, g3, g4, g5, g6⟩ := cross_d hq hr (by omega)
  have hf := fraction_eq (r.num * q.den - q.num * r.den) (r.den * q.den) (Int.mul_ne_zero (den_ne r) (den_ne q)) m5
  rw [Ow.sub_eq] at hf
  unfold d_less
  simp only [EV, ixE0, ixE1, m1, m3, g1, hf]
theorem whole_eq (n : Nat) : d_whole [.int n] = .ret (enc ((n : Int) : Rat)) [] := by
  unfold d_whole
  simp only [EV, encI]
theorem term_along_af {f g : Nat → Rat} {k a b : Nat} (hk : 0 < k) (h15 : k ≤ 15) (h1 : k ≤ a) (h2 : k < b) (hf : ∀ i, i < k → sz 3871 (f i)) (hg : ∀ i, i ≤ k → sz 3871 (g i)) (hp : ∀ j, j ≤ k → sz 3920 (af f g k j)) (ht : ∀ t, t < k → sz 3920 ((((k - t : Nat) : Int) : Rat) * (f t * g (k - t)))) : d_term_along [encS (tl f a), encS (tl g b), .int k] = .ret (enc (af f g k k / ((k : Int) : Rat))) [] := by
  have hr : gRng [.int (k : Int)] = some (rngD 0 k) := rngN k (by omega)
  have e0 : D.tup [.int 0, .int 1] = enc (af f g k 0) := rfl
  obtain ⟨σ', e, hσ⟩ := forL_rng (T := .nm 4) (G := (sSet 3 (eCall d_plus [] (aCons (eVar 3) (aCons (eCall d_times [] (aCons (eCall d_whole [] (aCons (eBin dSub (eVar 2) (eVar 4)) aNil)) (aCons (eCall d_times [] (aCons (eBin dIx (eVar 0) (eVar 4)) (aCons (eBin dIx (eVar 1) (eBin dSub (eVar 2) (eVar 4))) aNil))) aNil))) aNil))))) k (fun j σ => ∃ x, σ = [encS (tl f a), encS (tl g b), .int k, enc (af f g k j), x]) [encS (tl f a), encS (tl g b), .int k, enc (af f g k 0), .non] ⟨_, rfl⟩ (by
    rintro j σ hj ⟨x, rfl⟩
    have i1 := tl_ix (f := f) (n := a) (i := j) (by omega)
    have i2 := tl_ix (f := g) (n := b) (i := k - j) (by omega)
    have w := whole_eq (k - j)
    have sw := sz_nat (k := k - j) (n := 5) (by omega) (by omega)
    have ek : ((k - j : Nat) : Int) = (k : Int) - j := by omega
    rw [ek] at i2 w
    have s1 := hf j hj
    have s2 := hg (k - j) (by omega)
    have t := times_eq s1 s2 (by omega)
    have t2 := times_eq sw (sz_mul s1 s2) (by omega)
    have p := plus_eq (hp j (by omega)) (ht j hj) (by omega)
    have ea : af f g k (j + 1) = af f g k j + (((k - j : Nat) : Int) : Rat) * (f j * g (k - j)) := rfl
    rw [ek] at t2 p ea
    refine ⟨_, [encS (tl f a), encS (tl g b), .int k, enc (af f g k (j + 1)), .int j], rfl, ?_, _, rfl⟩
    simp only [EV, i1, i2, w, t, t2, p, ea])
  obtain ⟨x, rfl⟩ := hσ
  have o := over_eq (hp k (Nat.le_refl _)) (sz_nat (k := k) (n := 5) (by omega) (by omega)) (by omega) (cast_ne (by omega))
  unfold d_term_along
  simp only [EV, flat2_i, hr, e0, e, whole_eq, o]
theorem drv_lt {m : List MRow} (hm : Mach m) {i : Nat} (hi : i < m.length) : ∀ d ∈ drvs m i, d < m.length := fun d hd => by
  obtain ⟨rk, hrk⟩ := hm.rk
  exact (hrk i _ (hm.at hi) d hd).1
theorem whl_lt {m : List MRow} (hm : Mach m) {i : Nat} (hi : i < m.length) {s : Rat} {w d : Nat} (e : m.getD i default = .disc s w d) : w < m.length := hm.whl i s w d (by rw [hm.at hi, e])
/-- what is small enough to turn to term k -/
structure Fits (m : List MRow) (many : Nat) : Prop where
  num : ∀ r ∈ m, ∀ q ∈ r.nums, sz 11 q
  size : ∃ B, pF m (ordN m m.length) ≤ 2 ^ B ∧ ∀ k, k < many → B * k + 15 * (m.length * k) ≤ 3870
  len : m.length ≤ 100
  most : many ≤ 16
theorem Fits.sz {m : List MRow} {many : Nat} (h : Fits m many) (hm : Mach m) {T : Nat → Nat → Rat} (hT : Turn m T) {i k : Nat} (hi : i < m.length) (hk : k < many) : sz 3871 (T i k) := by
  obtain ⟨e, hf, hb⟩ := h.size
  have := h.most
  exact turn_sz hm hT h.num hf hi (by omega) (hb k hk)
theorem Fits.part {m : List MRow} {many : Nat} (h : Fits m many) (hm : Mach m) {T : Nat → Nat → Rat} (hT : Turn m T) {w d k j : Nat} (hw : w < m.length) (hd : d < m.length) (h0 : 0 < k) (hk : k < many) (hj : j ≤ k) : Ow.sz 3920 (af (T w) (T d) k j) := by
  obtain ⟨e, hf, hb⟩ := h.size
  have := h.most
  exact (part_sz hm hT h.num hf hw hd h0 (by omega) (hb k hk)).1 j hj
theorem Fits.term {m : List MRow} {many : Nat} (h : Fits m many) (hm : Mach m) {T : Nat → Nat → Rat} (hT : Turn m T) {w d k t : Nat} (hw : w < m.length) (hd : d < m.length) (h0 : 0 < k) (hk : k < many) (ht : t < k) : Ow.sz 3920 ((((k - t : Nat) : Int) : Rat) * (T w t * T d (k - t))) := by
  obtain ⟨e, hf, hb⟩ := h.size
  have := h.most
  exact (part_sz hm hT h.num hf hw hd h0 (by omega) (hb k hk)).2 t ht
theorem further_eq {m : List MRow} (hm : Mach m) {T : Nat → Nat → Rat} (hT : Turn m T) {many k i : Nat} (hz : Fits m many) (h0 : 0 < k) (hk : k < many) (hi : i < m.length) {L : Nat → Nat} (hL : ∀ i, k ≤ L i) (hd : ∀ d ∈ drvs m i, k < L d) :
    d_further_term [encR (m.getD i default), tab T m.length L, .int k] = .ret (enc (T i k)) [] := by
  have dl := drv_lt hm hi
  have wl := fun s w d => whl_lt hm hi (s := s) (w := w) (d := d)
  have hsz := fun d (h : d < m.length) => hz.sz hm hT h hk
  have most := hz.most
  rw [hT.step i k hi h0]
  have hnum : ∀ q ∈ (m.getD i default).nums, sz 11 q := hz.num _ (List.mem_of_getElem? (hm.at hi))
  unfold drvs at hd dl
  revert hd dl wl hnum
  cases m.getD i default with
  | source s =>
    intro _ dl wl _
    have z1 := str_ss
    by_cases h1 : k = 1
    · subst h1
      have hk1 : ((1 : Nat) : Int) = 1 := rfl
      show _ = FR.ret (enc 1) []
      unfold d_further_term
      simp only [EW, encR_0, MRow.name, z1, hk1]
      rfl
    · have hk1 : ¬ ((k : Int) = 1) := by omega
      show _ = FR.ret (enc (if k = 1 then 1 else 0)) []
      rw [if_neg h1]
      unfold d_further_term
      simp only [EW, encR_0, MRow.name, z1, hk1]
      rfl
  | gear s q d =>
    intro hd dl wl hnum
    have i3 := encR_3 (.gear s q d) rfl
    have hdl := dl d (by simp [MRow.drv])
    have i4 := tab_ix (T := T) (L := L) hdl
    have i5 := tl_ix (f := T d) (hd d (by simp [MRow.drv]))
    have t := times_eq (hnum q (by simp [MRow.nums])) (hsz d hdl) (by omega)
    show _ = FR.ret (enc (q * T d k)) []
    unfold d_further_term
    simp only [EW, encR_0, MRow.name, str_gs, name_gear (.gear s q d), show dEq (.str "gear") (.str "gear") = some (.bl true) from name_gear (.gear 0 0 0), encR_2g, i3, MRow.last, i4, i5, t]
  | adder s a b =>
    intro hd dl wl hnum
    have i2 := encR_2 (.adder s a b) rfl rfl
    have i3 := encR_3 (.adder s a b) rfl
    have ha := dl a (by simp [MRow.drv])
    have hb := dl b (by simp [MRow.drv])
    have i4 := tab_ix (T := T) (L := L) ha
    have i5 := tl_ix (f := T a) (hd a (by simp [MRow.drv]))
    have i6 := tab_ix (T := T) (L := L) hb
    have i7 := tl_ix (f := T b) (hd b (by simp [MRow.drv]))
    have t := plus_eq (hsz a ha) (hsz b hb) (by omega)
    show _ = FR.ret (enc (T a k + T b k)) []
    unfold d_further_term
    simp only [EW, encR_0, MRow.name, str_as, str_aa, show dEq (.str "adder") (.str "gear") = some (.bl false) from name_gear (.adder 0 0 0), i2, i3, MRow.last, MRow.mid, i4, i5, i6, i7, t]
  | disc s w d =>
    intro hd dl wl hnum
    have i2 := encR_2 (.disc s w d) rfl rfl
    have i3 := encR_3 (.disc s w d) rfl
    have hdl := dl d (by simp [MRow.drv])
    have hwl := wl s w d rfl
    have i4 := tab_ix (T := T) (L := L) hwl
    have i6 := tab_ix (T := T) (L := L) hdl
    have t := term_along_af (f := T w) (g := T d) h0 (by omega) (hL w) (hd d (by simp [MRow.drv])) (fun i hi => hz.sz hm hT hwl (by omega)) (fun i hi => hz.sz hm hT hdl (by omega)) (fun j hj => hz.part hm hT hwl hdl h0 hk hj) (fun t ht => hz.term hm hT hwl hdl h0 hk ht)
    show _ = FR.ret (enc (af (T w) (T d) k k / ((k : Int) : Rat))) []
    unfold d_further_term
    simp only [EW, encR_0, MRow.name, str_ds, str_da, show dEq (.str "disc") (.str "gear") = some (.bl false) from name_gear (.disc 0 0 0), i2, i3, MRow.last, MRow.mid, i4, i6, t]
theorem append_S {f : Nat → Rat} {k : Nat} (h : k < 10000) : mAppend (encS (tl f k)) [enc (f k)] = some (encS (tl f (k + 1)), .non) := by
  have : mAppend (.lst ((tl f k).map enc)) [enc (f k)] = some (.lst ((tl f k).map enc ++ [enc (f k)]), .non) := append_l (by rw [List.length_map, tl_len, sizeLine_eq]; omega)
  unfold encS
  rw [this, tl_succ, List.map_append]
  rfl
theorem series_eq' {m : List MRow} (hm : Mach m) {T : Nat → Nat → Rat} (hT : Turn m T) {many : Nat} (h0 : 0 < many) (hz : Fits m many) : d_series_of [encM m, .int many] = .ret (tab T m.length fun _ => many) [] := by
  have most := hz.most
  have len := hz.len
  have hr : gRng [.int 1, .int (many : Int)] = some (rngD 1 (many - 1)) := by
    have ht : ((many : Int) - 1).toNat = many - 1 := by omega
    rw [rngL2 (by omega) (by omega) (by omega) (by omega), ht]
  have hzm : (m.map encR).length ≤ sizeLine := lc_small (by rw [List.length_map]; omega)
  obtain ⟨o1, o2, o3⟩ := ordN_ok hm m.length (Nat.le_refl _)
  obtain ⟨_, e1, x1, rfl⟩ := lcL_mapG (T := .nm 6) (ge := eLst (aCons (eFlat (eBin dIx (eVar 6) (eC (.int 1)))) aNil)) encR (fun r => D.lst [enc r.st]) (fun σ => ∃ x, σ = [encM m, .int many, nats (ordN m m.length), .non, .non, .non, x]) m [encM m, .int many, nats (ordN m m.length), .non, .non, .non, .non] ⟨_, rfl⟩ (by
    rintro r hr σ ⟨x, rfl⟩
    refine ⟨[encM m, .int many, nats (ordN m m.length), .non, .non, .non, encR r], [encM m, .int many, nats (ordN m m.length), .non, .non, .non, encR r], rfl, ?_, _, rfl⟩
    simp only [EW, encR_1, fl2E])
  have t0 : D.lst (m.map fun r => D.lst [enc r.st]) = tab T m.length fun _ => 1 := by
    unfold tab
    refine congrArg D.lst ?_
    apply List.ext_getElem
    · simp
    · intro i h1 h2
      have hi : i < m.length := by simpa using h1
      rw [List.getElem_map, List.getElem_map, List.getElem_range]
      show D.lst [enc m[i].st] = D.lst [enc (T i 0)]
      rw [hT.zero i hi, List.getD_eq_getElem?_getD, List.getElem?_eq_getElem hi]
      rfl
  unfold d_series_of
  generalize hG : sFor (.nm 5) _ _ = G
  obtain ⟨σ', e2, h2⟩ := forL_rngL (T := .nm 4) (G := G) 1 (many - 1) (fun j σ => ∃ a b, σ = [encM m, .int many, nats (ordN m m.length), tab T m.length (fun _ => j + 1), a, b, x1]) [encM m, .int many, nats (ordN m m.length), tab T m.length (fun _ => 0 + 1), .non, .non, x1] ⟨_, _, rfl⟩ (by
    rintro j σ hj ⟨a, b, rfl⟩
    have hjk : (1 : Int) + (j : Int) = ((j + 1 : Nat) : Int) := by omega
    rw [hjk]
    subst hG
    -- the shafts in their order
    obtain ⟨_, e3, x, rfl⟩ := forL_inv (T := .nm 5) (G := sDrop (eMutIx "list" 3 mAppend (eVar 5) (aCons (eCall d_further_term [] (aCons (eBin dIx (eVar 0) (eVar 5)) (aCons (eVar 3) (aCons (eVar 4) aNil)))) aNil))) ((ordN m m.length).map fun (i : Nat) => D.int (i : Int)) (fun q σ => ∃ x, σ = [encM m, .int many, nats (ordN m m.length), tab T m.length (fun i => if i ∈ ordN m q then j + 2 else j + 1), .int (j + 1 : Nat), x, x1]) [encM m, .int many, nats (ordN m m.length), tab T m.length (fun i => if i ∈ ordN m 0 then j + 2 else j + 1), .int (j + 1 : Nat), b, x1] ⟨_, rfl⟩ (by
      rintro q d σ hq ⟨x, rfl⟩
      have hqn : q < m.length := by
        have := (List.getElem?_eq_some_iff.mp hq).1
        rw [List.length_map, o1] at this
        exact this
      obtain ⟨s, l, hc, hs, ho⟩ := ordN_at hm hqn
      rw [List.getElem?_map, hs] at hq
      have hq : D.int (s : Int) = d := Option.some.inj hq
      subst hq
      have hr : s ∈ rdy m (ordN m q) := by rw [hc]; simp
      rw [mem_rdy] at hr
      obtain ⟨hs1, hs2, hs3⟩ := hr
      have fe := further_eq hm hT hz (k := j + 1) (i := s) (by omega) (by omega) hs1 (L := fun i => if i ∈ ordN m q then j + 2 else j + 1) (fun i => by split <;> omega) (fun d hd => by rw [if_pos (hs3 d hd)]; omega)
      have mx : eMutIx "list" 3 mAppend (eVar 5) (aCons (eCall d_further_term [] (aCons (eBin dIx (eVar 0) (eVar 5)) (aCons (eVar 3) (aCons (eVar 4) aNil)))) aNil) [encM m, .int many, nats (ordN m m.length), tab T m.length (fun i => if i ∈ ordN m q then j + 2 else j + 1), .int (j + 1 : Nat), .int s, x1] = .ok .non [encM m, .int many, nats (ordN m m.length), tab T m.length (fun i => if i ∈ ordN m (q + 1) then j + 2 else j + 1), .int (j + 1 : Nat), .int s, x1] := by
        have g : ((List.range m.length).map fun i => encS (tl (T i) (if i ∈ ordN m q then j + 2 else j + 1))).getD s .non = encS (tl (T s) (j + 1)) := by
          rw [List.getD_eq_getElem?_getD, List.getElem?_map, List.getElem?_range hs1]
          show encS (tl (T s) (if s ∈ ordN m q then j + 2 else j + 1)) = _
          rw [if_neg hs2]
        have := mutix_of (T := "list") (r := 3) (f := mAppend) (gi := eVar 5) (σ := [encM m, .int many, nats (ordN m m.length), tab T m.length (fun i => if i ∈ ordN m q then j + 2 else j + 1), .int (j + 1 : Nat), .int s, x1]) (gs := aCons (eCall d_further_term [] (aCons (eBin dIx (eVar 0) (eVar 5)) (aCons (eVar 3) (aCons (eVar 4) aNil)))) aNil) ((List.range m.length).map fun i => encS (tl (T i) (if i ∈ ordN m q then j + 2 else j + 1))) s (as := [enc (T s (j + 1))]) (c := encS (tl (T s) (j + 1 + 1))) (z := .non) rfl rfl (by simpa using hs1) (by rw [g]; rfl) (by simp only [EW, ixM hs1, fe]) (by rw [g]; exact append_S (by omega))
        rw [this]
        have ts : D.lst (((List.range m.length).map fun i => encS (tl (T i) (if i ∈ ordN m q then j + 2 else j + 1))).set s (encS (tl (T s) (j + 1 + 1)))) = tab T m.length (fun i => if i ∈ ordN m (q + 1) then j + 2 else j + 1) := by
          unfold tab
          refine congrArg D.lst ?_
          apply List.ext_getElem
          · simp
          · intro i h1 h2
            rw [List.getElem_set, List.getElem_map, List.getElem_map, List.getElem_range, ho]
            by_cases e : s = i
            · subst e
              rw [if_pos rfl]
              show encS (tl (T s) (j + 1 + 1)) = encS (tl (T s) (if s ∈ ordN m q ++ [s] then j + 2 else j + 1))
              rw [if_pos (by simp)]
            · rw [if_neg e]
              have : (i ∈ ordN m q ++ [s]) = (i ∈ ordN m q) := by simp [Ne.symm e]
              show encS (tl (T i) (if i ∈ ordN m q then j + 2 else j + 1)) = encS (tl (T i) (if i ∈ ordN m q ++ [s] then j + 2 else j + 1))
              simp only [this]
        rw [ts]
        rfl
      refine ⟨[encM m, .int many, nats (ordN m m.length), tab T m.length (fun i => if i ∈ ordN m q then j + 2 else j + 1), .int (j + 1 : Nat), .int s, x1], [encM m, .int many, nats (ordN m m.length), tab T m.length (fun i => if i ∈ ordN m (q + 1) then j + 2 else j + 1), .int (j + 1 : Nat), .int s, x1], rfl, .inl ?_, _, rfl⟩
      simp only [EW, mx])
    rw [List.length_map, o1] at e3
    refine ⟨[encM m, .int many, nats (ordN m m.length), tab T m.length (fun _ => j + 1), .int (j + 1 : Nat), b, x1], [encM m, .int many, nats (ordN m m.length), tab T m.length (fun _ => j + 1 + 1), .int (j + 1 : Nat), x, x1], rfl, ?_, _, _, rfl⟩
    have ta : tab T m.length (fun _ => j + 1) = tab T m.length (fun i => if i ∈ ordN m 0 then j + 2 else j + 1) := tab_congr fun i _ => by
      have : ¬ i ∈ ordN m 0 := by show ¬ i ∈ []; simp
      rw [if_neg this]
    have tb : tab T m.length (fun i => if i ∈ ordN m m.length then j + 2 else j + 1) = tab T m.length (fun _ => j + 1 + 1) := tab_congr fun i hi => by rw [if_pos (rdy_all hm (rdy_end hm) i hi)]
    rw [tb] at e3
    rw [ta]
    simp only [EW, listI, e3])
  obtain ⟨a, b, rfl⟩ := h2
  have ef : tab T m.length (fun _ => many - 1 + 1) = tab T m.length (fun _ => many) := tab_congr fun _ _ => by omega
  rw [ef] at e2
  have e2 : forL (.nm 4) G (rngD 1 (many - 1)) [encM m, .int many, nats (ordN m m.length), tab T m.length (fun _ => 1), .non, .non, x1] = .nxt [encM m, .int many, nats (ordN m m.length), tab T m.length (fun _ => many), a, b, x1] := e2
  simp only [EW, order_eq hm (by omega), listMr, lc2_0 hzm, e1, t0, hr, e2]
theorem fr_lt {m : List MRow} (hm : Mach m) {s e : Nat} (hq : ∀ r ∈ m, ∀ q ∈ r.nums, q.den < 2 ^ s) (he : 19 + s = e) (i : Nat) (hi : i < m.length) : fr m i < 2 ^ e := by
  have q19 : QQ < 2 ^ 19 := by decide
  have one : 1 < 2 ^ e := Nat.one_lt_two_pow (by omega)
  have small : ∀ d : Nat, d < 2 ^ s → d < 2 ^ e := fun d hd => Nat.lt_of_lt_of_le hd (Nat.pow_le_pow_right (by omega) (by omega))
  have mul : ∀ d : Nat, d < 2 ^ s → QQ * d < 2 ^ e := fun d hd => by
    rw [← he, Nat.pow_add]
    exact Nat.lt_of_le_of_lt (Nat.mul_le_mul_right _ (Nat.le_of_lt q19)) (Nat.mul_lt_mul_of_pos_left hd (by decide))
  have hr := hq _ (List.mem_of_getElem? (hm.at hi))
  have hw := fun s w d => whl_lt hm hi (s := s) (w := w) (d := d)
  have hf : fr m i = match m.getD i default with
    | .source _ => 1
    | .gear _ q _ => q.den
    | .adder _ _ _ => 1
    | .disc _ w _ => QQ * ((m.getD w default).st).den := rfl
  rw [hf]
  revert hr hw
  cases m.getD i default with
  | source s => intro _ _; exact one
  | gear s q d => intro hr _; exact small _ (hr q (by simp [MRow.nums]))
  | adder s a b => intro _ _; exact one
  | disc s w d =>
    intro _ hw
    have hwl := hw s w d rfl
    refine mul _ (hq (m.getD w default) ?_ _ ?_)
    · rw [List.getD_eq_getElem?_getD, List.getElem?_eq_getElem hwl]
      exact List.getElem_mem hwl
    · cases m.getD w default <;> simp [MRow.nums, MRow.st]
theorem enc0 : D.tup [.int 0, .int 1] = enc 0 := rfl
/-- a square of numbers -/
abbrev mtD (M : Nat → Nat → Rat) (n : Nat) : D := tab M n fun _ => n
theorem mt_len (M : Nat → Nat → Rat) (n : Nat) : fLen [mtD M n] = some (.int n) := by
  show some (D.int _) = _
  rw [List.length_map, List.length_range]
theorem list_mt (M : Nat → Nat → Rat) (n : Nat) (σ : List D) : list2 (.ok (mtD M n) σ) = .ok ((List.range n).map fun i => encS (tl (M i) n)) σ := (rfl)
/-- rows that are looked through from a row on -/
theorem lead_eq {M : Nat → Nat → Rat} {n k : Nat} (hk : k < n) (hn : n ≤ 1000) : (∃ i, k ≤ i ∧ i < n ∧ M i k ≠ 0 ∧ d_first_lead [mtD M n, .int k] = .ret (.int (i : Int)) []) ∨ ((∀ i, k ≤ i → i < n → M i k = 0) ∧ d_first_lead [mtD M n, .int k] = .ret .non []) := by
  have rg : gRng [.int (k : Int), .int (n : Int)] = some (rngD k (n - k)) := by
    have := rngL2 (i := (k : Int)) (j := (n : Int)) (by omega) (by omega) (by omega) (by omega)
    rw [this, show ((n : Int) - (k : Int)).toNat = n - k by omega]
  have ln := mt_len M n
  rw [rngD_map] at rg
  have key := forL_retM (T := .nm 2) (G := (sIf (tOf (eBin dNe (eBin dIx (eBin dIx (eVar 0) (eVar 2)) (eVar 1)) (eC (.tup [.int 0, .int 1])))) (sRet (eFlat (eVar 2))) sSkip)) (fun v σ => ∃ i : Nat, k ≤ i ∧ i < n ∧ M i k ≠ 0 ∧ v = .int (i : Int)) (fun (i : Nat) => D.int ((k : Int) + (i : Int))) (List.range (n - k)) (fun j σ => (∃ x, σ = [mtD M n, .int k, x]) ∧ ∀ i, k ≤ i → i < k + j → M i k = 0) [mtD M n, .int k, .non] ⟨⟨_, rfl⟩, fun i a b => by omega⟩ (by
    rintro i a σ ha ⟨⟨x, rfl⟩, hz⟩
    have il : i < n - k := by
      have := (List.getElem?_eq_some_iff.mp ha).1
      simpa using this
    have ea : a = i := by
      rw [List.getElem?_range il] at ha
      exact (Option.some.inj ha).symm
    subst ea
    have e1 : (k : Int) + (a : Int) = ((k + a : Nat) : Int) := by omega
    have ix1 := tab_ix (T := M) (n := n) (L := fun _ => n) (i := k + a) (by omega)
    have ix2 := tl_ix (f := M (k + a)) (n := n) (i := k) hk
    refine ⟨[mtD M n, .int k, .int ((k + a : Nat) : Int)], by rw [e1]; rfl, ?_⟩
    have ne := neE (M (k + a) k) 0
    by_cases z : M (k + a) k = 0
    · rw [z] at ne
      refine .inl ⟨[mtD M n, .int k, .int ((k + a : Nat) : Int)], .inl ?_, ⟨_, rfl⟩, fun i h1 h2 => ?_⟩
      · simp only [EW, ix1, ix2, enc0, z, ne]
      · by_cases y : i < k + a
        · exact hz i h1 y
        · rw [show i = k + a by omega]; exact z
    · refine .inr ⟨.int ((k + a : Nat) : Int), [mtD M n, .int k, .int ((k + a : Nat) : Int)], ?_, k + a, by omega, by omega, z, rfl⟩
      rw [decide_eq_true (show ¬ M (k + a) k = 0 from z)] at ne
      simp only [EW, ix1, ix2, enc0, ne])
  rcases key with ⟨σ', e, ⟨x, rfl⟩, hz⟩ | ⟨v, σ', e, i, h1, h2, h3, rfl⟩
  · refine .inr ⟨fun i h1 h2 => hz i h1 (by rw [List.length_range]; omega), ?_⟩
    unfold d_first_lead
    simp only [EW, ln, rg, e]
  · refine .inl ⟨i, h1, h2, h3, ?_⟩
    unfold d_first_lead
    simp only [EW, ln, rg, e]
/-- a row less a multiple of another one -/
theorem rowless_eq {u v : Nat → Rat} {c : Rat} {n s : Nat} (hu : ∀ j, j < n → sz s (u j)) (hv : ∀ j, j < n → sz s (v j)) (hc : sz (2 * s) c) (hs : 4 * s ≤ 8998) (hn : n ≤ 1000) : d_row_less [encS (tl u n), enc c, encS (tl v n)] = .ret (encS (tl (fun j => u j - c * v j) n)) [] := by
  have zp : fZip [encS (tl u n), encS (tl v n)] = some ((List.range n).map fun j => D.tup [enc (u j), enc (v j)]) := by
    show some (zipD _ _) = _
    refine congrArg some ?_
    unfold zipD tl
    apply List.ext_getElem
    · simp
    · intro i h1 h2
      simp
  have hz : ((List.range n).map fun j => D.tup [enc (u j), enc (v j)]).length ≤ sizeLine := lc_small (by rw [List.length_map, List.length_range]; omega)
  obtain ⟨_, e, x, y, rfl⟩ := lcL_mapG (T := .tp [3, 4]) (ge := (eCall d_less [] (aCons (eVar 3) (aCons (eCall d_times [] (aCons (eVar 1) (aCons (eVar 4) aNil))) aNil)))) (fun (j : Nat) => D.tup [enc (u j), enc (v j)]) (fun j => enc (u j - c * v j)) (fun σ => ∃ x y, σ = [encS (tl u n), enc c, encS (tl v n), x, y]) (List.range n) [encS (tl u n), enc c, encS (tl v n), .non, .non] ⟨_, _, rfl⟩ (by
    rintro j hj σ ⟨x, y, rfl⟩
    have hj := List.mem_range.mp hj
    have t := times_eq hc (hv j hj) (by omega)
    have l := less_eq (hu j hj) (sz_mul hc (hv j hj)) (by omega)
    refine ⟨[encS (tl u n), enc c, encS (tl v n), enc (u j), enc (v j)], [encS (tl u n), enc c, encS (tl v n), enc (u j), enc (v j)], rfl, ?_, _, _, rfl⟩
    simp only [EW, t, l])
  unfold d_row_less
  simp only [EW, zp, lc2_0 hz, e]
  unfold encS tl
  rw [List.map_map]
  rfl
/-- a square whose rows are led down by a row, as far as a row -/
noncomputable def ldS (M : Nat → Nat → Rat) (k n t : Nat) : Nat → Nat → Rat := fun i j => if i < t then ldR M k n i j else M i j
theorem mt_set {M : Nat → Nat → Rat} {n i : Nat} {u : Nat → Rat} (h : i < n) : dSetIx (mtD M n) (.int i) (encS (tl u n)) = some (mtD (stR M i u) n) := by
  show dSetIx (.lst _) _ _ = _
  rw [setix_lN (by rw [List.length_map, List.length_range]; exact h)]
  refine congrArg some (congrArg D.lst ?_)
  apply List.ext_getElem
  · simp
  · intro a h1 h2
    rw [List.getElem_set]
    simp only [List.getElem_map, List.getElem_range]
    by_cases z : i = a
    · subst z
      rw [if_pos rfl]
      have : stR M i u i = u := by funext b; exact if_pos rfl
      rw [this]
    · rw [if_neg z]
      have : stR M i u a = M a := by funext b; exact if_neg (Ne.symm z)
      rw [this]
theorem mt_congr {M M' : Nat → Nat → Rat} {n : Nat} (h : ∀ i j, i < n → j < n → M i j = M' i j) : mtD M n = mtD M' n := by
  refine congrArg D.lst (List.map_congr_left fun i hi => ?_)
  unfold encS
  exact congrArg D.lst (congrArg (List.map enc) (tl_congr fun j hj => h i j (List.mem_range.mp hi) hj))
theorem fk_le {a b : Nat} (h : a ≤ b) : fk a ≤ fk b := by
  induction b with
  | zero => rw [Nat.le_zero.mp h]; exact Nat.le_refl _
  | succ b ih =>
    rcases Nat.lt_or_ge a (b + 1) with z | z
    · exact Nat.le_trans (ih (by omega)) (by show fk b ≤ (b + 1) * fk b; exact Nat.le_mul_of_pos_left _ (by omega))
    · rw [Nat.le_antisymm h z]; exact Nat.le_refl _
/-- what squares of a size may have -/
structure DtB (D N n s : Nat) : Prop where
  d0 : 0 < D
  n0 : 0 < N
  lt : fk n * N ^ n * D ^ n < 2 ^ s
  s4 : 4 * s ≤ 8998
  len : n ≤ 1000
theorem DtB.le {D N n s a b c : Nat} (z : DtB D N n s) (ha : a ≤ n) (hb : b ≤ n) (hc : c ≤ n) : fk a * N ^ b * D ^ c < 2 ^ s :=
  Nat.lt_of_le_of_lt (Nat.mul_le_mul (Nat.mul_le_mul (fk_le ha) (Nat.pow_le_pow_right z.n0 hb)) (Nat.pow_le_pow_right z.d0 hc)) z.lt
theorem DtB.sub {D N n s : Nat} (z : DtB D N n s) {a : Nat} (ha : a ≤ n) : DtB D N a s := ⟨z.d0, z.n0, z.le ha ha ha, z.s4, by have := z.len; omega⟩
theorem DtB.dlt {D N n s : Nat} (z : DtB D N n s) {c : Nat} (hc : c ≤ n) : D ^ c < 2 ^ s := by
  have := z.le (a := 0) (b := 0) (c := c) (by omega) (by omega) hc
  simpa [fk] using this
theorem DtB.nlt {D N n s : Nat} (z : DtB D N n s) {a b : Nat} (ha : a ≤ n) (hb : b ≤ n) : fk a * N ^ b < 2 ^ s := by
  have := z.le (a := a) (b := b) (c := 0) ha hb (by omega)
  rwa [Nat.pow_zero, Nat.mul_one] at this
theorem DtB.det {D N n s : Nat} (z : DtB D N n s) {m : Nat} (hm : m ≤ n) {A : Nat → Nat → Rat} (h : ∀ i j, i < m → j < m → fb D N (A i j)) : sz s (dt m A) :=
  (fb_dt z.d0 h).sz (z.dlt hm) (z.nlt hm hm)
theorem El_sz {n k D N s : Nat} {B M : Nat → Nat → Rat} (e : El n k B M) (z : DtB D N n s) (hB : ∀ i j, i < n → j < n → fb D N (B i j)) {i j : Nat} (hk : k < n) (hi : k ≤ i) (hin : i < n) (hj : j < n) : Ow.sz s (M i j) := by
  by_cases y : j < k
  · rw [e.low i j y (by omega) hin]
    have s1 := z.dlt (c := 0) (by omega)
    exact ⟨by show (0 : Nat) < _; exact Nat.pow_pos (by omega), by show (1 : Nat) < _; rwa [Nat.pow_zero] at s1⟩
  · have a := e.at hi hin (j := j) (by omega)
    have d := e.dg (Nat.le_of_lt hk)
    have p := dgP_ne e.piv
    rw [← d] at a p
    have f1 := fb_dt (n := k + 1) (A := fun a b => B (if a < k then a else i) (if b < k then b else j)) z.d0 fun a b ha hb => hB _ _ (by split <;> omega) (by split <;> omega)
    have f2 := fb_dt (n := k) (A := B) z.d0 fun a b ha hb => hB a b (by omega) (by omega)
    refine quo_sz f1 f2 p a (z.le (by omega) (by omega) (by omega)) ?_
    rw [Nat.mul_comm]
    exact z.le (by omega) (by omega) (by omega)
theorem dgP_swap {M : Nat → Nat → Rat} {k i : Nat} (h : k ≤ i) : dgP (swR M k i) k = dgP M k := dgP_congr fun a ha => by
  unfold swR stR
  rw [if_neg (by omega), if_neg (by omega)]
theorem mt_swap {M : Nat → Nat → Rat} {n k i : Nat} (hk : k < n) (hi : i < n) (hn : n ≤ 1000) (a : D) (q x y : D) : sSwapIx 1 3 4 [a, mtD M n, q, .int k, .int i, x, y] = .nxt [a, mtD (swR M k i) n, q, .int k, .int i, x, y] := by
  have e1 : ixN ((List.range n).map fun i => encS (tl (M i) n)).length (k : Int) = some k := by
    rw [List.length_map, List.length_range]
    unfold ixN
    rw [if_pos (by omega), if_pos (by omega), Int.toNat_natCast]
  have e2 : ixN ((List.range n).map fun i => encS (tl (M i) n)).length (i : Int) = some i := by
    rw [List.length_map, List.length_range]
    unfold ixN
    rw [if_pos (by omega), if_pos (by omega), Int.toNat_natCast]
  show (match ixN ((List.range n).map fun i => encS (tl (M i) n)).length (k : Int), ixN ((List.range n).map fun i => encS (tl (M i) n)).length (i : Int) with
    | some p, some q' => SO.nxt (List.set [a, mtD M n, q, .int k, .int i, x, y] 1 (.lst ((((List.range n).map fun i => encS (tl (M i) n)).set p (((List.range n).map fun i => encS (tl (M i) n)).getD q' .non)).set q' (((List.range n).map fun i => encS (tl (M i) n)).getD p .non))))
    | _, _ => .stuck) = _
  rw [e1, e2]
  dsimp only
  have g : ∀ t, t < n → ((List.range n).map fun i => encS (tl (M i) n)).getD t .non = encS (tl (M t) n) := fun t ht => by
    rw [List.getD_eq_getElem?_getD, List.getElem?_map, List.getElem?_range ht]; rfl
  rw [g k hk, g i hi]
  refine congrArg SO.nxt (congrArg (fun z => [a, D.lst z, q, .int k, .int i, x, y]) ?_)
  apply List.ext_getElem
  · simp
  · intro t h1 h2
    have ht : t < n := by simpa using h2
    rw [List.getElem_set, List.getElem_set]
    simp only [List.getElem_map, List.getElem_range]
    unfold swR
    by_cases y : i = t
    · subst y
      rw [if_pos rfl]
      have : stR (stR M k (M i)) i (M k) i = M k := by funext b; exact if_pos rfl
      rw [this]
    · rw [if_neg y]
      by_cases w : k = t
      · subst w
        rw [if_pos rfl]
        have : stR (stR M k (M i)) i (M k) k = M i := by funext b; unfold stR; rw [if_neg (Ne.symm y), if_pos rfl]
        rw [this]
      · rw [if_neg w]
        have : stR (stR M k (M i)) i (M k) t = M t := by funext b; unfold stR; rw [if_neg (Ne.symm y), if_neg (Ne.symm w)]
        rw [this]
/-- the program's determinant -/
theorem det_eq {A : Nat → Nat → Rat} {D0 N n s : Nat} (z : DtB D0 N n s) (hA : ∀ i j, i < n → j < n → fb D0 N (A i j)) : d_determinant [mtD A n] = .ret (enc (dt n A)) [] := by
  have s4 := z.s4
  have hn := z.len
  have s1 : 1 ≤ s := by
    have := z.dlt (c := 0) (by omega)
    rw [Nat.pow_zero] at this
    rcases Nat.eq_zero_or_pos s with h | h
    · rw [h] at this; omega
    · exact h
  have ln : ∀ M, fLen [mtD M n] = some (.int n) := fun M => mt_len M n
  obtain ⟨_, ec, x6, rfl⟩ := lcL_mapG (T := .nm 6) (ge := (eFlatL (eCall1 fListOf (aCons (eVar 6) aNil)))) (fun (i : Nat) => encS (tl (A i) n)) (fun i => encS (tl (A i) n)) (fun σ => ∃ x, σ = [mtD A n, .non, .non, .non, .non, .non, x]) (List.range n) [mtD A n, .non, .non, .non, .non, .non, .non] ⟨_, rfl⟩ (by
    rintro i hi σ ⟨x, rfl⟩
    refine ⟨[mtD A n, .non, .non, .non, .non, .non, encS (tl (A i) n)], [mtD A n, .non, .non, .non, .non, .non, encS (tl (A i) n)], rfl, ?_, _, rfl⟩
    simp only [EW, listS, flatL2S])
  have hz : ((List.range n).map fun i => encS (tl (A i) n)).length ≤ sizeLine := lc_small (by rw [List.length_map, List.length_range]; omega)
  have rg : gRng [.int (n : Int)] = some (rngD 0 n) := rngN n (by omega)
  rw [rng0] at rg
  unfold d_determinant
  generalize hT : (sSeq (sSet 2 (eCall d_times [] _)) _) = TL
  generalize hG : (sSeq (sSet 4 (eCall d_first_lead [] _)) _) = G
  have key := forL_retM (T := .nm 3) (G := G) (fun v σ => v = enc 0 ∧ dt n A = 0) (fun (i : Nat) => D.int (i : Int)) (List.range n)
    (fun k σ => ∃ B M q x3 x4 x5, σ = [mtD A n, mtD M n, enc (q * dgP M k), x3, x4, x5, x6] ∧ El n k B M ∧ dt n A = q * dt n B ∧ (q = 1 ∨ q = -1) ∧ ∀ i j, i < n → j < n → fb D0 N (B i j))
    [mtD A n, mtD A n, enc 1, .non, .non, .non, x6] ⟨A, A, 1, _, _, _, by rw [show (1 : Rat) * dgP A 0 = 1 from Rat.one_mul 1], El.zero n A, by grind, .inl rfl, hA⟩ (by
    rintro k a σ ha ⟨B, M, q, x3, x4, x5, rfl, el, ed, hq, hB⟩
    have kl : k < n := by
      have := (List.getElem?_eq_some_iff.mp ha).1
      simpa using this
    have ea : a = k := by
      rw [List.getElem?_range kl] at ha
      exact (Option.some.inj ha).symm
    subst ea
    refine ⟨[mtD A n, mtD M n, enc (q * dgP M a), .int a, x4, x5, x6], rfl, ?_⟩
    have q2 : ∀ {t : Rat}, Ow.sz s t → Ow.sz s (q * t) := fun {t} h => by
      rcases hq with rfl | rfl
      · rw [Rat.one_mul]; exact h
      · rw [show (-1 : Rat) * t = -t by grind]; exact sz_neg h
    have dgs : Ow.sz s (dgP M a) := by
      rw [← el.dg (Nat.le_of_lt kl)]
      exact z.det (Nat.le_of_lt kl) fun i j hi hj => hB i j (by omega) (by omega)
    subst hG
    rcases lead_eq (M := M) kl hn with ⟨i, h1, h2, h3, e⟩ | ⟨h1, e⟩
    · left
      -- the rows as they are led down
      have inner : ∀ (B' M' : Nat → Nat → Rat) (q' : Rat) (x5 : D), El n a B' M' → dt n A = q' * dt n B' → (q' = 1 ∨ q' = -1) → (∀ i j, i < n → j < n → fb D0 N (B' i j)) → M' a a ≠ 0 → ∃ x5', TL [mtD A n, mtD M' n, enc (q' * dgP M' a), .int a, .int i, x5, x6] = .nxt [mtD A n, mtD (ldR M' a n) n, enc (q' * dgP (ldR M' a n) (a + 1)), .int a, .int i, x5', x6] := by
        intro B' M' q' x5 el' ed' hq' hB' piv
        have q2 : ∀ {t : Rat}, Ow.sz s t → Ow.sz s (q' * t) := fun {t} h => by
          rcases hq' with rfl | rfl
          · rw [Rat.one_mul]; exact h
          · rw [show (-1 : Rat) * t = -t by grind]; exact sz_neg h
        have dgs : Ow.sz s (dgP M' a) := by
          rw [← el'.dg (Nat.le_of_lt kl)]
          exact z.det (Nat.le_of_lt kl) fun i j hi hj => hB' i j (by omega) (by omega)
        have t1 := times_eq (q2 dgs) (El_sz el' z hB' kl (Nat.le_refl _) kl kl) (by omega)
        have ixa := tab_ix (T := M') (n := n) (L := fun _ => n) kl
        have ixaa := tl_ix (f := M' a) (n := n) kl
        have rg1 : gRng [.int ((a : Int) + 1), .int (n : Int)] = some (rngD ((a : Int) + 1) (n - (a + 1))) := by
          rw [rngL2 (by omega) (by omega) (by omega) (by omega)]
          rw [show ((n : Int) - ((a : Int) + 1)).toNat = n - (a + 1) by omega]
        obtain ⟨σ', ee, x5', rfl⟩ := forL_rngL (T := .nm 5) (G := (sSetIx 1 (eCall d_row_less [] (aCons (eBin dIx (eVar 1) (eVar 5)) (aCons (eCall d_over [] (aCons (eBin dIx (eBin dIx (eVar 1) (eVar 5)) (eVar 3)) (aCons (eBin dIx (eBin dIx (eVar 1) (eVar 3)) (eVar 3)) aNil))) (aCons (eBin dIx (eVar 1) (eVar 3)) aNil)))) (eVar 5))) ((a : Int) + 1) (n - (a + 1)) (fun t σ => ∃ x5', σ = [mtD A n, mtD (ldS M' a n (a + 1 + t)) n, enc (q' * dgP M' a * M' a a), .int a, .int i, x5', x6]) [mtD A n, mtD M' n, enc (q' * dgP M' a * M' a a), .int a, .int i, x5, x6] ⟨x5, by
            rw [mt_congr (M := M') (M' := ldS M' a n (a + 1 + 0)) fun i j hi hj => by
              unfold ldS ldR
              by_cases y : i < a + 1 + 0
              · rw [if_pos y, if_neg (by omega)]
              · rw [if_neg y]]⟩ (by
          rintro t σ ht ⟨x5, rfl⟩
          have e1 : (a : Int) + 1 + (t : Int) = ((a + 1 + t : Nat) : Int) := by omega
          have tn : a + 1 + t < n := by omega
          have r1 : ldS M' a n (a + 1 + t) (a + 1 + t) = M' (a + 1 + t) := by funext b; exact if_neg (by omega)
          have r2 : ldS M' a n (a + 1 + t) a = M' a := by
            funext b
            unfold ldS ldR
            rw [if_pos (by omega), if_neg (by omega)]
          have i1 := tab_ix (T := ldS M' a n (a + 1 + t)) (n := n) (L := fun _ => n) tn
          have i2 := tab_ix (T := ldS M' a n (a + 1 + t)) (n := n) (L := fun _ => n) kl
          rw [r1] at i1
          rw [r2] at i2
          have i3 := tl_ix (f := M' (a + 1 + t)) (n := n) kl
          have sa : ∀ j, j < n → Ow.sz s (M' a j) := fun j hj => El_sz el' z hB' kl (Nat.le_refl _) kl hj
          have st : ∀ j, j < n → Ow.sz s (M' (a + 1 + t) j) := fun j hj => El_sz el' z hB' kl (by omega) tn hj
          have ov := over_eq (st a kl) (sa a kl) (by omega) piv
          have so := sz_div (st a kl) (sa a kl) piv
          have rl := rowless_eq (n := n) st sa (so.mono (by omega)) (by omega) hn
          have sx := mt_set (M := ldS M' a n (a + 1 + t)) (n := n) (i := a + 1 + t) (u := fun j => M' (a + 1 + t) j - M' (a + 1 + t) a / M' a a * M' a j) tn
          have fin : mtD (stR (ldS M' a n (a + 1 + t)) (a + 1 + t) fun j => M' (a + 1 + t) j - M' (a + 1 + t) a / M' a a * M' a j) n = mtD (ldS M' a n (a + 1 + (t + 1))) n := mt_congr fun i j hi hj => by
            unfold stR
            by_cases y : i = a + 1 + t
            · subst y
              rw [if_pos rfl]
              unfold ldS ldR
              rw [if_pos (by omega), if_pos ⟨by omega, hi⟩]
            · rw [if_neg y]
              unfold ldS
              by_cases w : i < a + 1 + t
              · rw [if_pos w, if_pos (by omega)]
              · rw [if_neg w, if_neg (by omega)]
          refine ⟨[mtD A n, mtD (ldS M' a n (a + 1 + t)) n, enc (q' * dgP M' a * M' a a), .int a, .int i, .int ((a + 1 + t : Nat) : Int), x6], [mtD A n, mtD (ldS M' a n (a + 1 + (t + 1))) n, enc (q' * dgP M' a * M' a a), .int a, .int i, .int ((a + 1 + t : Nat) : Int), x6], by rw [e1]; rfl, ?_, _, rfl⟩
          simp only [EW, i1, i2, i3, ixaa, ov, rl, sx, fin])
        have e1 : mtD (ldS M' a n (a + 1 + (n - (a + 1)))) n = mtD (ldR M' a n) n := mt_congr fun i j hi hj => if_pos (by omega)
        have e2 : q' * dgP M' a * M' a a = q' * dgP (ldR M' a n) (a + 1) := by
          show _ = q' * (dgP (ldR M' a n) a * ldR M' a n a a)
          have h1 : ldR M' a n a a = M' a a := if_neg (by omega)
          have h2 : dgP (ldR M' a n) a = dgP M' a := dgP_congr fun i hi => if_neg (by omega)
          rw [h1, h2]
          grind
        rw [e1] at ee
        rw [← e2]
        refine ⟨x5', ?_⟩
        rw [← hT]
        simp only [EW, ixa, ixaa, t1, ln, rg1, ee]
      by_cases ia : i = a
      · subst ia
        obtain ⟨x5', ei⟩ := inner B M q x5 el ed hq hB h3
        have nn : dIsN (.int (i : Int)) .non = some (.bl false) := rfl
        refine ⟨[mtD A n, mtD (ldR M i n) n, enc (q * dgP (ldR M i n) (i + 1)), .int i, .int i, x5', x6], .inl ?_, B, ldR M i n, q, _, _, _, rfl, el.step kl h3, ed, hq, hB⟩
        simp only [EW, e, nn, ei]
      · have sw := el.swap h1 h2
        have ds := dt_sw (n := n) (i := a) (k := i) kl h2 (Ne.symm ia) B
        have piv : swR M a i a a ≠ 0 := by
          unfold swR stR
          rw [if_neg (Ne.symm ia), if_pos rfl]
          exact h3
        obtain ⟨x5', ei⟩ := inner (swR B a i) (swR M a i) (-q) x5 sw (by rw [ed, ds]; grind) (by rcases hq with rfl | rfl; exact .inr rfl; exact .inl (by grind)) (fun i' j hi hj => by
          rw [swR_trp]
          exact hB _ _ (trp_lt h2 kl hi) hj) piv
        have nn : dIsN (.int (i : Int)) .non = some (.bl false) := rfl
        have ne : dNe (.int (i : Int)) (.int (a : Int)) = some (.bl true) := by
          rw [ne_ii, decide_eq_true (by omega)]
        have l0 := less_eq (r := 0) sz_0 (q2 dgs) (by omega)
        have l1 : (0 : Rat) - q * dgP M a = (-q) * dgP (swR M a i) a := by rw [dgP_swap h1]; grind
        rw [l1] at l0
        have sp := mt_swap (M := M) kl h2 hn (mtD A n) (enc (q * dgP M a)) x5 x6
        refine ⟨[mtD A n, mtD (ldR (swR M a i) a n) n, enc (-q * dgP (ldR (swR M a i) a n) (a + 1)), .int a, .int i, x5', x6], .inl ?_, swR B a i, ldR (swR M a i) a n, -q, _, _, _, rfl, sw.step kl piv, by rw [ed, ds]; grind, by rcases hq with rfl | rfl; exact .inr rfl; exact .inl (by grind), fun i' j hi hj => by
          rw [swR_trp]
          exact hB _ _ (trp_lt h2 kl hi) hj⟩
        simp only [EW, e, nn, ne, sp, enc0, l0, ei]
    · right
      have nn : dIsN .non .non = some (.bl true) := rfl
      refine ⟨enc 0, [mtD A n, mtD M n, enc (q * dgP M a), .int a, .non, x5, x6], ?_, rfl, by rw [ed, el.none kl h1]; grind⟩
      simp only [EW, e, nn, enc0])
  have o1 : D.tup [.int 1, .int 1] = enc 1 := rfl
  have mtl : D.lst ((List.range n).map fun i => encS (tl (A i) n)) = mtD A n := rfl
  rcases key with ⟨σ', e, B, M, q, x3, x4, x5, rfl, el, ed, hq, hB⟩ | ⟨v, σ', e, rfl, e0⟩
  · rw [List.length_range] at e el
    have : q * dgP M n = dt n A := by rw [← el.dg (Nat.le_refl _), ed]
    rw [this] at e
    simp only [EW, list_mt, lc2_0 hz, ec, mtl, o1, ln, rg, e, fl2E]
  · rw [e0]
    simp only [EW, list_mt, lc2_0 hz, ec, mtl, o1, ln, rg, e]
def fac : Nat → Nat
  | 0 => 1
  | k + 1 => fac k * (k + 1)
theorem fac_lt {k : Nat} (h : k ≤ 16) : fac k < 2 ^ 45 := by
  have : ∀ k : Fin 17, fac k < 2 ^ 45 := by decide +kernel
  exact this ⟨k, by omega⟩
theorem fac_step (k : Nat) : fac (k - 1) * max 1 k = fac k := by
  cases k with
  | zero => rfl
  | succ k =>
    rw [Nat.add_sub_cancel, Nat.max_eq_right (by omega)]
    rfl
/-- the worths of a series -/
def wo (f : Nat → Rat) (k : Nat) : Rat := ((fac k : Int) : Rat) * f k
theorem fac_sz {k : Nat} (h : k ≤ 16) : sz 45 (((fac k : Nat) : Int) : Rat) := sz_nat (fac_lt h) (by omega)
theorem fac_mul {k : Nat} (h : k ≤ 16) : dMul (.int (fac (k - 1))) (.int (max 1 (k : Int))) = some (.int (fac k)) := by
  have e : (fac k : Int) = (fac (k - 1) : Int) * max 1 (k : Int) := by
    rw [← fac_step k, Int.natCast_mul]
    congr 1
    omega
  rw [e]
  exact mul_ii (mulOk_r (by omega) (by omega))
theorem tl_enum {f : Nat → Rat} {n i : Nat} {d : D} (h : (enumD ((tl f n).map enc))[i]? = some d) : i < n ∧ d = .tup [.int i, enc (f i)] := by
  have hi : i < n := by
    have := (List.getElem?_eq_some_iff.mp h).1
    unfold enumD at this
    rwa [List.length_mapIdx, List.length_map, tl_len] at this
  refine ⟨hi, ?_⟩
  unfold enumD tl at h
  rw [List.getElem?_mapIdx, List.getElem?_map, List.getElem?_map, List.getElem?_range hi] at h
  exact (Option.some.inj h).symm
theorem tl_enum_len {f : Nat → Rat} {n : Nat} : (enumD ((tl f n).map enc)).length = n := by unfold enumD; rw [List.length_mapIdx, List.length_map, tl_len]
theorem worths_eq {m : List MRow} (hm : Mach m) {T : Nat → Nat → Rat} (hT : Turn m T) {many i : Nat} (h0 : 0 < many) (hz : Fits m many) (hi : i < m.length) : d_worths_of [encM m, .int i, .int many] = .ret (encS (tl (wo (T i)) many)) [] := by
  have most := hz.most
  have se := series_eq' hm hT h0 hz
  have ix := tab_ix (T := T) (L := fun _ => many) hi
  have en : fEnum [encS (tl (T i) many)] = some (enumD ((tl (T i) many).map enc)) := rfl
  obtain ⟨_, e, x, y, rfl⟩ := forL_inv (T := .tp [5, 6]) (G := (sSeq (sSet 4 (eBin dMul (eVar 4) (eCall1 fMax2 (aCons (eC (.int 1)) (aCons (eVar 5) aNil))))) (sDrop (eMut "list" 3 mAppend (aCons (eCall d_times [] (aCons (eCall d_whole [] (aCons (eVar 4) aNil)) (aCons (eVar 6) aNil))) aNil))))) (enumD ((tl (T i) many).map enc)) (fun k σ => ∃ x y, σ = [encM m, .int i, .int many, encS (tl (wo (T i)) k), .int (fac (k - 1)), x, y]) [encM m, .int i, .int many, encS (tl (wo (T i)) 0), .int (fac (0 - 1)), .non, .non] ⟨_, _, rfl⟩ (by
    rintro k d σ hd ⟨x, y, rfl⟩
    obtain ⟨hk, rfl⟩ := tl_enum hd
    have f1 := fac_mul (k := k) (by omega)
    have t := times_eq (fac_sz (k := k) (by omega)) (hz.sz hm hT hi hk) (by omega)
    have w : d_whole [.int (fac k)] = .ret (enc ((fac k : Int) : Rat)) [] := by
      unfold d_whole
      simp only [EW, encI]
    have ap : mAppend (encS (tl (wo (T i)) k)) [enc (((fac k : Int) : Rat) * T i k)] = some (encS (tl (wo (T i)) (k + 1)), .non) := append_S (f := wo (T i)) (by omega)
    refine ⟨[encM m, .int i, .int many, encS (tl (wo (T i)) k), .int (fac (k - 1)), .int k, enc (T i k)], [encM m, .int i, .int many, encS (tl (wo (T i)) (k + 1)), .int (fac (k + 1 - 1)), .int k, enc (T i k)], rfl, .inl ?_, _, _, rfl⟩
    simp only [EW, f1, w, t, isTy_S, ap, Nat.add_sub_cancel])
  rw [tl_enum_len] at e
  have e : forL (.tp [5, 6]) _ _ [encM m, .int i, .int many, .lst [], .int 1, .non, .non] = _ := e
  unfold d_worths_of
  simp only [EW, se, ix, en, e]
/-- a square of worths -/
def sqD (w : Nat → Rat) (r : Nat) : D := .lst ((List.range r).map fun i => encS (tl (fun j => w (i + 2 + j)) r))
theorem sqfrom_eq {w : Nat → Rat} {n r : Nat} (h : 2 * r + 1 ≤ n) (hr : r ≤ 5000) : d_square_from [encS (tl w n), .int r] = .ret (sqD w r) [] := by
  have hrn : gRng [.int (r : Int)] = some (rngD 0 r) := rngN r (by omega)
  have hz : (rngD 0 r).length ≤ sizeLine := lc_small (by rw [rngD_len]; omega)
  rw [rng0] at hrn hz
  obtain ⟨_, e, x, rfl⟩ := lcL_mapG (T := .nm 2) (ge := eFlatL (eSl dSlL (eVar 0) (oSome (eBin dAdd (eVar 2) (eC (.int 2)))) (oSome (eBin dAdd (eBin dAdd (eVar 2) (eC (.int 2))) (eVar 1))))) (fun (i : Nat) => D.int (i : Int)) (fun i => encS (tl (fun j => w (i + 2 + j)) r)) (fun σ => ∃ x, σ = [encS (tl w n), .int r, x]) (List.range r) [encS (tl w n), .int r, .non] ⟨_, rfl⟩ (by
    rintro i hi σ ⟨x, rfl⟩
    have hi := List.mem_range.mp hi
    have e1 : (i : Int) + 2 = ((i + 2 : Nat) : Int) := by omega
    have e2 : ((i + 2 : Nat) : Int) + r = ((i + 2 + r : Nat) : Int) := by omega
    have sl : dSlL (encS (tl w n)) (some ((i + 2 : Nat) : Int)) (some ((i + 2 + r : Nat) : Int)) = some (encS (tl (fun j => w (i + 2 + j)) r)) := by
      show some (D.lst (Ow.cutD ((tl w n).map enc) _ _)) = _
      rw [cut_mid (by omega) (by rw [List.length_map, tl_len]; omega), ← List.map_drop, ← List.map_take, Nat.add_sub_cancel_left, tl_cut (by omega)]
      rfl
    refine ⟨[encS (tl w n), .int r, .int i], [encS (tl w n), .int r, .int i], rfl, ?_, _, rfl⟩
    simp only [EW, e2, e1, sl, flatL2S])
  unfold d_square_from
  simp only [EW, hrn, lc2_0 hz, e]
  rfl
theorem fac_ft : ∀ k, fac k = ft k
  | 0 => rfl
  | k + 1 => by
    show fac k * (k + 1) = (k + 1) * ft k
    rw [fac_ft k, Nat.mul_comm]
theorem wo_wt (f : Nat → Rat) (k : Nat) : wo f k = wt f k := by
  unfold wo wt
  rw [fac_ft]
/-- a square of worths -/
def hkl (w : Nat → Rat) (i j : Nat) : Rat := w (i + 2 + j)
/-- the greatest size below n whose square has a determinant other than 0 -/
def mst (w : Nat → Rat) : Nat → Nat
  | 0 => 0
  | n + 1 => if dt n (hkl w) ≠ 0 then n else mst w n
theorem mst_le (w : Nat → Rat) : ∀ n, mst w (n + 1) ≤ n
  | 0 => by show (if _ then 0 else 0) ≤ 0; split <;> omega
  | n + 1 => by
    have ih := mst_le w n
    show (if dt (n + 1) (hkl w) ≠ 0 then n + 1 else mst w (n + 1)) ≤ n + 1
    by_cases h : dt (n + 1) (hkl w) ≠ 0
    · rw [if_pos h]; exact Nat.le_refl _
    · rw [if_neg h]; exact Nat.le_succ_of_le ih
/-- a machine whose squares can be reckoned -/
structure Few (m : List MRow) (T : Nat → Nat → Rat) (s : Nat) : Prop where
  hm : Mach m
  he : evenB m = true
  hT : Turn m T
  len : m.length ≤ 5000
  dis : (discs m).length ≤ 11
  wor : ∀ (i k : Nat), i < m.length → k ≤ 2 * (discs m).length → d_worths_of [encM m, .int i, .int (k + 1 : Nat)] = .ret (encS (tl (wo (T i)) (k + 1))) []
  sqz : ∃ D N, DtB D N (discs m).length s ∧ ∀ i k, i < m.length → k ≤ 2 * (discs m).length → fb D N (wo (T i) k)
theorem Few.square {m : List MRow} {T : Nat → Nat → Rat} {s : Nat} (F : Few m T s) {i r : Nat} (hi : i < m.length) (hr : r ≤ (discs m).length) : d_square_of [encM m, .int i, .int r] = .ret (mtD (hkl (wo (T i))) r) [] := by
  have dl := F.dis
  have g1 := mul_ii (mulOk_l (i := 2) (j := (r : Int)) (by omega) (by omega))
  have g2 : (2 : Int) * r + 1 = ((2 * r + 1 : Nat) : Int) := by omega
  have w := F.wor i (2 * r) hi (by omega)
  have q := sqfrom_eq (w := wo (T i)) (n := 2 * r + 1) (r := r) (by omega) (by omega)
  unfold d_square_of
  simp only [EW, g1, g2, w, q]
  rfl
theorem Few.det {m : List MRow} {T : Nat → Nat → Rat} {s : Nat} (F : Few m T s) {i r : Nat} (hi : i < m.length) (hr : r ≤ (discs m).length) : d_determinant [mtD (hkl (wo (T i))) r] = .ret (enc (dt r (hkl (wo (T i))))) [] := by
  obtain ⟨D, N, z, h⟩ := F.sqz
  exact det_eq (z.sub hr) fun a b ha hb => h i (a + 2 + b) hi (by omega)
theorem Few.loop {m : List MRow} {T : Nat → Nat → Rat} {s : Nat} (F : Few m T s) {i : Nat} (hi : i < m.length) : ∀ r, r ≤ (discs m).length → ∃ k, whileN (tOf (eBin dEq (eCall d_determinant [] (aCons (eCall d_square_of [] (aCons (eVar 0) (aCons (eVar 1) (aCons (eVar 2) aNil)))) aNil)) (eC (.tup [.int 0, .int 1])))) (sSet 2 (eBin dSub (eVar 2) (eC (.int 1)))) k [encM m, .int i, .int r] = .nxt [encM m, .int i, .int (mst (wo (T i)) (r + 1) : Nat)] := by
  intro r
  induction r with
  | zero =>
    intro hr
    have sq := F.square hi hr
    have dd := F.det hi hr
    have ne : (enc (dt 0 (hkl (wo (T i))))) = enc 1 := rfl
    rw [ne] at dd
    have e0 : mst (wo (T i)) (0 + 1) = 0 := by show (if _ then 0 else 0) = 0; exact ite_self 0
    rw [e0]
    have q : dEq (enc 1) (enc 0) = some (.bl false) := by rw [eqE]; rfl
    refine ⟨1, whileN_end ?_⟩
    simp only [EW, sq, dd, enc0, q]
  | succ r ih =>
    intro hr
    have sq := F.square hi hr
    have dd := F.det hi hr
    have q := eqE (dt (r + 1) (hkl (wo (T i)))) 0
    by_cases z : dt (r + 1) (hkl (wo (T i))) = 0
    · rw [decide_eq_true z] at q
      obtain ⟨k, ek⟩ := ih (by omega)
      have e0 : mst (wo (T i)) (r + 1 + 1) = mst (wo (T i)) (r + 1) := if_neg (fun h => h z)
      have e1 : ((r + 1 : Nat) : Int) - 1 = (r : Int) := by omega
      rw [e0]
      refine ⟨k + 1, whileN_step (σ1 := [encM m, .int i, .int (r + 1 : Nat)]) (σ2 := [encM m, .int i, .int r]) ?_ ?_ ek⟩
      · simp only [EW, sq, dd, enc0, q]
      · simp only [EW, e1]
    · rw [decide_eq_false z] at q
      have e0 : mst (wo (T i)) (r + 1 + 1) = r + 1 := if_pos z
      rw [e0]
      refine ⟨1, whileN_end ?_⟩
      simp only [EW, sq, dd, enc0, q]
theorem nats_len (l : List Nat) : fLen [nats l] = some (.int l.length) := by
  show some (D.int _) = _
  rw [List.length_map]
theorem lookeven_eq {m : List MRow} (hm : Mach m) (h5 : m.length ≤ 5000) (he : evenB m = true) : d_look_even [encM m] = .ret .non [] := by
  have ev := even_eq hm h5
  rw [he] at ev
  unfold d_look_even
  simp only [EW, ev]
theorem Few.few {m : List MRow} {T : Nat → Nat → Rat} {s : Nat} (F : Few m T s) {i : Nat} (hi : i < m.length) : d_fewest [encM m, .int i] = .ret (.int (mst (wo (T i)) ((discs m).length + 1) : Nat)) [] := by
  have le := lookeven_eq F.hm F.len F.he
  have di := discs_eq F.len
  obtain ⟨k, ek⟩ := F.loop hi _ (Nat.le_refl _)
  have wh := sWhile_of ek
  unfold d_fewest
  simp only [EW, le, di, nats_len, wh]
theorem name_ad (r : MRow) : dInT (.str r.name) (.tup [.str "adder", .str "disc"]) = some (.bl (r.isDisc || r.isAdder)) := by cases r <;> rfl
theorem renamed_eq {m : List MRow} (hm : Mach m) {k : Int} {b : D} (B : Bag k b) (hk : k < 2 ^ 18) (h5 : m.length ≤ 200) {s : Nat} (hs : s < m.length) : ∃ (p : List Nat) (b' : D), d__law_renamed [b, encM m, .int s] = .ret (.tup [encM (renM m p), .int (p.getD s 0 : Nat)]) [b'] ∧ p.Perm (List.range m.length) ∧ Bag (k + m.length) b' := by
  obtain ⟨p, b1, e1, hp, B1⟩ := turned_eq B hk m.length h5
  refine ⟨p, b1, ?_, hp, B1⟩
  have nd : p.Nodup := hp.nodup_iff.mpr List.nodup_range
  have hl : p.length = m.length := by rw [hp.length_eq, List.length_range]
  have mem : ∀ {i x : Nat}, p[i]? = some x → x < m.length := fun {i x} h => List.mem_range.mp (hp.mem_iff.mp (List.mem_of_getElem? h))
  have ixp : ∀ i, i < m.length → dIx (nats p) (.int i) = some (.int (p.getD i 0 : Nat)) := fun i hi => nats_ix (by rw [List.getElem?_eq_getElem (by omega), List.getD_eq_getElem?_getD, List.getElem?_eq_getElem (by omega)]; rfl)
  have ct : ∀ {a b : List D}, a.length + b.length ≤ 10000 → dCatT (.tup a) (.tup b) = some (.tup (a ++ b)) := fun h => if_pos (by rw [sizeLine_eq]; omega)
  have rep : dRep (.lst [.non]) (.int m.length) = some (.lst (List.replicate m.length .non)) := by rw [rep_1 rfl (by omega) (by omega), Int.toNat_natCast]
  have en : fEnum [encM m] = some (enumD (m.map encR)) := rfl
  unfold d__law_renamed
  generalize hG : (sSeq (sIf (tOf (eBin dEq (eBin dIx (eVar 6) (eC (.int 0))) (eC (.str "gear")))) _ _) _) = G
  obtain ⟨_, e, F, x, y, rfl, hF, hI⟩ := forL_inv (T := .tp [5, 6]) (G := G) (enumD (m.map encR)) (fun j σ => ∃ (F : List D) (x y : D), σ = [b1, encM m, .int s, nats p, .lst F, x, y] ∧ F.length = m.length ∧ ∀ i, i < j → i < m.length → F[p.getD i 0]? = some (encR ((m.getD i default).ren fun i => p.getD i 0))) [b1, encM m, .int s, nats p, .lst (List.replicate m.length .non), .non, .non] ⟨_, _, _, rfl, by simp, fun i hi => by omega⟩ (by
    rintro j d σ hj ⟨F, x, y, rfl, hF, hI⟩
    have hjn : j < m.length := by
      have := (List.getElem?_eq_some_iff.mp hj).1
      unfold enumD at this
      rwa [List.length_mapIdx, List.length_map] at this
    unfold enumD at hj
    rw [List.getElem?_mapIdx, List.getElem?_map, hm.at hjn] at hj
    have hj : D.tup [.int j, encR (m.getD j default)] = d := Option.some.inj hj
    subst hj
    obtain ⟨rk, hrk⟩ := hm.rk
    have hd : ∀ d ∈ (m.getD j default).drv, d < m.length := fun d hd => (hrk j _ (hm.at hjn) d hd).1
    have hw : ∀ s w d, m.getD j default = .disc s w d → w < m.length := fun s w d e => hm.whl j s w d (by rw [hm.at hjn, e])
    have pj : p[j]? = some (p.getD j 0) := by rw [List.getElem?_eq_getElem (by omega), List.getD_eq_getElem?_getD, List.getElem?_eq_getElem (by omega)]; rfl
    have st : dSetIx (.lst F) (.int (p.getD j 0 : Nat)) (encR ((m.getD j default).ren fun i => p.getD i 0)) = some (.lst (F.set (p.getD j 0) (encR ((m.getD j default).ren fun i => p.getD i 0)))) := setix_lN (by rw [hF]; exact mem pj)
    have fl := flatR ((m.getD j default).ren fun i => p.getD i 0)
    refine ⟨[b1, encM m, .int s, nats p, .lst F, .int j, encR (m.getD j default)], [b1, encM m, .int s, nats p, .lst (F.set (p.getD j 0) (encR ((m.getD j default).ren fun i => p.getD i 0))), .int j, encR ((m.getD j default).ren fun i => p.getD i 0)], rfl, .inl ?_, _, _, _, rfl, by rw [List.length_set]; exact hF, fun i hi hin => ?_⟩
    · subst hG
      have ij := ixp j hjn
      cases hr : m.getD j default with
      | source t =>
        rw [hr] at st fl
        have z1 := name_gear (.source t)
        have z2 := name_ad (.source t)
        simp only [MRow.isGear, MRow.isDisc, MRow.isAdder, Bool.or_false] at z1 z2
        have rs : MRow.ren (fun i => p.getD i 0) (.source t) = .source t := rfl
        rw [rs] at st fl ⊢
        simp only [EW, encR_0, z1, z2, ij, fl, st]
      | gear t q k =>
        rw [hr] at st fl hd
        have z1 := name_gear (.gear t q k)
        have z2 : dInT (.str (MRow.gear t q k).name) (.tup [.str "adder", .str "disc"]) = some (.bl false) := name_ad (.gear t q k)
        simp only [MRow.isGear] at z1
        have i3 := encR_3 (.gear t q k) rfl
        have e : encR (MRow.ren (fun i => p.getD i 0) (.gear t q k)) = .tup [.str "gear", enc t, enc q, .int (p.getD k 0 : Nat)] := rfl
        have sl : dSlT (encR (.gear t q k)) none (some 3) = some (.tup [.str "gear", enc t, enc q]) := rfl
        have c := ct (a := [.str "gear", enc t, enc q]) (b := [.int (p.getD k 0 : Nat)]) (by simp)
        have ik := ixp k (hd k (by simp [MRow.drv]))
        have z3 := name_ad (MRow.gear t q (p.getD k 0))
        have e0 : dIx (.tup [.str "gear", enc t, enc q, .int (p.getD k 0 : Nat)]) (.int 0) = some (.str (MRow.gear t q (p.getD k 0)).name) := rfl
        have z3 : dInT (.str (MRow.gear t q (p.getD k 0)).name) (.tup [.str "adder", .str "disc"]) = some (.bl false) := z3
        rw [e] at st fl ⊢
        simp only [EW, encR_0, z1, i3, MRow.last, ik, sl, c, fl, e0, z3, ij, st]
      | adder t u v =>
        rw [hr] at st fl hd
        have z1 := name_gear (.adder t u v)
        have z2 : dInT (.str (MRow.adder t u v).name) (.tup [.str "adder", .str "disc"]) = some (.bl true) := name_ad (.adder t u v)
        simp only [MRow.isGear] at z1
        have i2 := encR_2 (.adder t u v) rfl rfl
        have i3 := encR_3 (.adder t u v) rfl
        have e : encR (MRow.ren (fun i => p.getD i 0) (.adder t u v)) = .tup [.str "adder", enc t, .int (p.getD u 0 : Nat), .int (p.getD v 0 : Nat)] := rfl
        have sl : dSlT (encR (.adder t u v)) none (some 2) = some (.tup [.str "adder", enc t]) := rfl
        have c := ct (a := [.str "adder", enc t]) (b := [.int (p.getD u 0 : Nat), .int (p.getD v 0 : Nat)]) (by simp)
        have iu := ixp u (hd u (by simp [MRow.drv]))
        have iv := ixp v (hd v (by simp [MRow.drv]))
        rw [e] at st fl ⊢
        simp only [EW, encR_0, z1, z2, i2, i3, MRow.last, MRow.mid, iu, iv, sl, c, fl, ij, st]
      | disc t u v =>
        rw [hr] at st fl hd
        have hw := hw t u v hr
        have z1 := name_gear (.disc t u v)
        have z2 : dInT (.str (MRow.disc t u v).name) (.tup [.str "adder", .str "disc"]) = some (.bl true) := name_ad (.disc t u v)
        simp only [MRow.isGear] at z1
        have i2 := encR_2 (.disc t u v) rfl rfl
        have i3 := encR_3 (.disc t u v) rfl
        have e : encR (MRow.ren (fun i => p.getD i 0) (.disc t u v)) = .tup [.str "disc", enc t, .int (p.getD u 0 : Nat), .int (p.getD v 0 : Nat)] := rfl
        have sl : dSlT (encR (.disc t u v)) none (some 2) = some (.tup [.str "disc", enc t]) := rfl
        have c := ct (a := [.str "disc", enc t]) (b := [.int (p.getD u 0 : Nat), .int (p.getD v 0 : Nat)]) (by simp)
        have iu := ixp u hw
        have iv := ixp v (hd v (by simp [MRow.drv]))
        rw [e] at st fl ⊢
        simp only [EW, encR_0, z1, z2, i2, i3, MRow.last, MRow.mid, iu, iv, sl, c, fl, ij, st]
    · have pi : p[i]? = some (p.getD i 0) := by rw [List.getElem?_eq_getElem (by omega), List.getD_eq_getElem?_getD, List.getElem?_eq_getElem (by omega)]; rfl
      by_cases hij : i = j
      · subst hij
        exact List.getElem?_set_self (by rw [hF]; exact mem pi)
      · rw [List.getElem?_set_ne, hI i (by omega) hin]
        intro e
        rw [← e] at pi
        obtain ⟨u1, v1⟩ := List.getElem?_eq_some_iff.mp pi
        obtain ⟨u2, v2⟩ := List.getElem?_eq_some_iff.mp pj
        exact hij ((List.getElem_inj nd).mp (v1.trans v2.symm)))
  have le : (enumD (m.map encR)).length = m.length := by unfold enumD; simp
  rw [le] at hI
  have fin : D.lst F = encM (renM m p) := by
    refine congrArg D.lst ?_
    apply List.ext_getElem?
    intro x
    by_cases hx : x < m.length
    · obtain ⟨a, g⟩ := perm_to hp hx
      have h := hI (p.idxOf x) (by omega) a
      rw [g] at h
      rw [h, List.getElem?_map, renM_at hx]
      rfl
    · rw [List.getElem?_eq_none (by omega), List.getElem?_eq_none (by rw [List.length_map, renM_len]; omega)]
  rw [fin] at e
  have is_ := ixp s hs
  simp only [EW, lenM, e1, rep, en, e, is_]
theorem wo_fun (f : Nat → Rat) : wo f = wt f := funext (wo_wt f)
theorem mst_of {w : Nat → Rat} {p : Nat} (h : dt p (hkl w) ≠ 0) : ∀ d, p ≤ d → (∀ n, p < n → n ≤ d → dt n (hkl w) = 0) → mst w (d + 1) = p
  | 0, hp, _ => by
    have := mst_le w 0
    omega
  | d + 1, hp, z => by
    show (if dt (d + 1) (hkl w) ≠ 0 then d + 1 else mst w (d + 1)) = p
    by_cases e : p = d + 1
    · rw [← e, if_pos h]
    · rw [if_neg (fun y => y (z (d + 1) (by omega) (Nat.le_refl _)))]
      exact mst_of h d (by omega) fun n a b => z n a (by omega)
theorem chain_mst {w : Nat → Rat} {p d : Nat} (h : w (p + 1) ≠ 0) (z : ∀ k, p + 1 < k → w k = 0) (hp : p ≤ d) : mst w (d + 1) = p :=
  mst_of (dt_anti (fun i j hi hj hij => z _ (by omega)) fun i j hij => by
    show w (i + 2 + j) ≠ 0
    rw [show i + 2 + j = p + 1 by omega]
    exact h) d hp fun n a b => dt_row0 (i := p) a fun j _ => z _ (by omega)
structure Good (m : List MRow) (sh due : Nat) : Prop where
  hm : Mach m
  he : evenB m = true
  hl : m.length ≤ 9
  hd : (discs m).length ≤ 5
  hn : ∀ r ∈ m, ∀ q ∈ r.nums, q.den = 1 ∧ q.num.natAbs ≤ 10
  hs : sh < m.length
  ms : ∀ T, Turn m T → mst (wt (T sh)) ((discs m).length + 1) = due
theorem Good.few {m : List MRow} {sh due : Nat} (g : Good m sh due) {T : Nat → Nat → Rat} (hT : Turn m T) : Few m T 2200 := by
  have hm := g.hm
  have he := g.he
  have hl := g.hl
  have hd := g.hd
  have fits : ∀ many, many ≤ 11 → Fits m many := fun many hmany => by
    refine ⟨fun r hr q hq => ⟨?_, ?_⟩, ⟨20 * m.length, B_of hm (fr_lt hm (s := 1) (fun r hr q hq => by rw [(g.hn r hr q hq).1]; decide) rfl), fun k hk => ?_⟩, by omega, by omega⟩
    · exact Nat.lt_of_le_of_lt (g.hn r hr q hq).2 (by decide)
    · rw [(g.hn r hr q hq).1]; decide
    · have : m.length * k ≤ 9 * 10 := Nat.mul_le_mul hl (by omega)
      rw [Nat.mul_assoc]
      omega
  refine ⟨hm, he, hT, by omega, by omega, fun i k hi hk => worths_eq hm hT (many := k + 1) (by omega) (fits _ (by omega)) hi, ?_⟩
  have lk := lk_le hm
  obtain ⟨d, hd'⟩ : ∃ d, d = (discs m).length := ⟨_, rfl⟩
  rw [← hd'] at lk hd ⊢
  have G : lkN m ≤ 8 := by omega
  refine ⟨1 ^ (1 + lkN m * (2 * d)), 10 ^ (1 + lkN m * (2 * d)), ⟨Nat.pow_pos (by omega), Nat.pow_pos (by omega), ?_, by omega, by omega⟩, fun i k hi hk => ?_⟩
  · rw [Nat.one_pow, Nat.one_pow, Nat.mul_one, ← Nat.pow_mul]
    have ed : (1 + lkN m * (2 * d)) * d ≤ (1 + 8 * (2 * 5)) * 5 := Nat.mul_le_mul (Nat.add_le_add_left (Nat.mul_le_mul G (by omega)) 1) hd
    have f5 : fk d ≤ 2 ^ 7 := Nat.le_trans (fk_le hd) (by decide)
    have a1 : 10 ^ ((1 + lkN m * (2 * d)) * d) ≤ 2 ^ (4 * 405) := by
      refine Nat.le_trans (Nat.pow_le_pow_left (by decide : 10 ≤ 2 ^ 4) _) ?_
      rw [← Nat.pow_mul]
      exact Nat.pow_le_pow_right (by omega) (by omega)
    refine Nat.lt_of_le_of_lt (Nat.mul_le_mul f5 a1) ?_
    rw [← Nat.pow_add]
    exact Nat.pow_lt_pow_right (by omega) (by omega)
  · rw [wo_wt]
    exact fp_up (by omega) (by omega) (even_wtA hm he hT (c := 1) (n := 10) (b := 10) (by omega) (by omega) (by omega) (fun r hr q hq => by
      obtain ⟨h1, h2⟩ := g.hn r hr q hq
      refine ⟨by omega, q.num, ?_, h2⟩
      have : q = ((q.num : Int) : Rat) := by
        have e := Rat.num_divInt_den q
        rw [h1, Rat.divInt_eq_div, show (((1 : Nat) : Int) : Rat) = 1 from rfl] at e
        grind
      rw [show (((1 : Nat) : Int) : Rat) = 1 from rfl, Rat.mul_one]
      exact this) hi k) (Nat.add_le_add_left (Nat.mul_le_mul_left _ hk) 1)
theorem Good.told {m : List MRow} {sh due : Nat} (g : Good m sh due) : d_fewest [encM m, .int sh] = .ret (.int due) [] := by
  obtain ⟨T, hT⟩ := turn_ex g.hm
  have f := (g.few hT).few g.hs
  rw [wo_fun, g.ms T hT] at f
  exact f
theorem Good.ren {m : List MRow} {sh due : Nat} (g : Good m sh due) {p : List Nat} (hp : p.Perm (List.range m.length)) : Good (renM m p) (p.getD sh 0) due := by
  refine ⟨g.hm.ren hp, even_renM g.hm g.he hp, by rw [renM_len]; exact g.hl, by rw [discs_renM hp]; exact g.hd, fun r hr q hq => ?_, by rw [renM_len]; exact (perm_at hp g.hs).1, fun T hT => ?_⟩
  · unfold renM at hr
    obtain ⟨x, hx, rfl⟩ := List.mem_map.mp hr
    rw [nums_ren] at hq
    exact g.hn _ (List.mem_of_getElem? (g.hm.at (perm_to hp (List.mem_range.mp hx)).1)) q hq
  · rw [discs_renM hp]
    exact g.ms _ (turn_renM hp hT)
structure Flat0 (m : List MRow) : Prop where
  src : ∃ t : Int, t.natAbs ≤ 10 ∧ m[0]? = some (.source (t : Rat))
  row : ∀ i r, 0 < i → m[i]? = some r → (∃ (t : Int) (w : Nat), t.natAbs ≤ 10 ∧ r = .disc (t : Rat) w 0 ∧ w < m.length) ∨ (∃ (t a : Int) (d : Nat), t.natAbs ≤ 10 ∧ a.natAbs ≤ 10 ∧ r = .gear (t : Rat) (a : Rat) d ∧ d < i) ∨ (∃ (t : Int) (x y : Nat), t.natAbs ≤ 10 ∧ r = .adder (t : Rat) x y ∧ x < i ∧ y < i)
theorem Flat0.mach {m : List MRow} (f : Flat0 m) : Mach m := by
  obtain ⟨t, ht, h0⟩ := f.src
  have l0 : 0 < m.length := (List.getElem?_eq_some_iff.mp h0).1
  refine ⟨l0, ⟨0, _, h0, fun i r hr hs => ?_⟩, ⟨fun i => i, fun i r hr d hd => ?_⟩, fun i s w k hr => ?_⟩
  · rcases Nat.eq_zero_or_pos i with h | h
    · exact h
    · rcases f.row i r h hr with ⟨_, _, _, rfl, _⟩ | ⟨_, _, _, _, _, rfl, _⟩ | ⟨_, _, _, _, rfl, _⟩ <;> cases hs
  · have il := (List.getElem?_eq_some_iff.mp hr).1
    rcases Nat.eq_zero_or_pos i with h | h
    · subst h
      rw [h0] at hr
      cases hr
      cases hd
    · rcases f.row i r h hr with ⟨_, _, _, rfl, _⟩ | ⟨_, _, e, _, _, rfl, hlt⟩ | ⟨_, x, y, _, rfl, h1, h2⟩
      · have : d = 0 := by simpa [MRow.drv] using hd
        exact ⟨by omega, show d < i by omega⟩
      · have : d = e := by simpa [MRow.drv] using hd
        exact ⟨by omega, show d < i by omega⟩
      · have hd : d = x ∨ d = y := by simpa [MRow.drv] using hd
        exact ⟨by omega, show d < i by omega⟩
  · rcases Nat.eq_zero_or_pos i with h | h
    · subst h
      rw [h0] at hr
      cases hr
    · rcases f.row i _ h hr with ⟨_, _, _, e, hw⟩ | ⟨_, _, _, _, _, e, _⟩ | ⟨_, _, _, _, e, _⟩
      · cases e; exact hw
      · cases e
      · cases e
theorem Flat0.even {m : List MRow} (f : Flat0 m) : evenB m = true := by
  obtain ⟨t, ht, h0⟩ := f.src
  refine List.all_eq_true.mpr fun i hi => ?_
  obtain ⟨h1, h2⟩ := mem_discsL.mp hi
  have hr := f.mach.at h1
  rcases Nat.eq_zero_or_pos i with h | h
  · subst h
    rw [h0] at hr
    have := Option.some.inj hr
    rw [← this] at h2
    cases h2
  · rcases f.row i _ h hr with ⟨_, _, _, e, hw⟩ | ⟨_, _, _, _, _, e, _⟩ | ⟨_, _, _, _, e, _⟩
    · rw [e]
      show (m.getD 0 default).isSrc = true
      rw [List.getD_eq_getElem?_getD, h0]
      rfl
    · rw [e] at h2; cases h2
    · rw [e] at h2; cases h2
theorem Flat0.nums {m : List MRow} (f : Flat0 m) : ∀ r ∈ m, ∀ q ∈ r.nums, q.den = 1 ∧ q.num.natAbs ≤ 10 := by
  intro r hr q hq
  have k : ∀ t : Int, t.natAbs ≤ 10 → ((t : Rat)).den = 1 ∧ ((t : Rat)).num.natAbs ≤ 10 := fun t h => ⟨Rat.den_intCast t, by rw [Rat.num_intCast]; exact h⟩
  obtain ⟨i, hi⟩ := List.getElem?_of_mem hr
  obtain ⟨t, ht, h0⟩ := f.src
  rcases Nat.eq_zero_or_pos i with h | h
  · subst h
    rw [h0] at hi
    cases hi
    have : q = (t : Rat) := by simpa [MRow.nums] using hq
    rw [this]; exact k t ht
  · rcases f.row i _ h hi with ⟨t, _, h1, rfl, hw⟩ | ⟨t, a, _, h1, h2, rfl, _⟩ | ⟨t, _, _, h1, rfl, _⟩
    · have : q = (t : Rat) := by simpa [MRow.nums] using hq
      rw [this]; exact k t h1
    · have : q = (t : Rat) ∨ q = (a : Rat) := by simpa [MRow.nums] using hq
      rcases this with rfl | rfl
      · exact k t h1
      · exact k a h2
    · have : q = (t : Rat) := by simpa [MRow.nums] using hq
      rw [this]; exact k t h1
theorem at_getD {m : List MRow} {i : Nat} {r : MRow} (h : m[i]? = some r) : i < m.length ∧ m.getD i default = r := ⟨(List.getElem?_eq_some_iff.mp h).1, by rw [List.getD_eq_getElem?_getD, h]; rfl⟩
/-- a chain of discs -/
theorem chain_worth {m : List MRow} (f : Flat0 m) {T : Nat → Nat → Rat} (hT : Turn m T) {n : Nat} (hc : ∀ k, k + 1 < n → ∃ t : Int, m[k + 1]? = some (.disc (t : Rat) (k + 2) 0)) : ∀ k, k < n → ∀ t, wt (T 1) (k + t) = wt (T (k + 1)) t
  | 0, _, t => by rw [Nat.zero_add]
  | k + 1, h, t => by
    obtain ⟨s, hs⟩ := hc k (by omega)
    obtain ⟨a, b⟩ := at_getD hs
    rw [show k + 1 + t = k + (t + 1) by omega, chain_worth f hT hc k (by omega) (t + 1)]
    exact wt_disc f.mach f.even hT a b t
theorem discs_ge {m : List MRow} {n : Nat} (h : ∀ k, k < n → ∃ (t : Rat) (w : Nat), m[k + 1]? = some (.disc t w 0)) : n ≤ (discs m).length := by
  rcases Nat.eq_zero_or_pos n with z | z
  · omega
  have hl : n + 1 ≤ m.length := by
    obtain ⟨_, _, e⟩ := h (n - 1) (by omega)
    have := (List.getElem?_eq_some_iff.mp e).1
    omega
  have e1 : (discs m).length = (List.range m.length).countP fun i => (m.getD i default).isDisc := by
    unfold discs
    rw [List.countP_eq_length_filter]
  rw [e1]
  have sub := (List.range_sublist.mpr hl).countP_le (p := fun i => (m.getD i default).isDisc)
  refine Nat.le_trans ?_ sub
  rw [List.range_succ_eq_map, List.countP_cons, List.countP_map]
  have : (List.range n).countP ((fun i => (m.getD i default).isDisc) ∘ Nat.succ) = n := by
    have := List.countP_eq_length (p := (fun i => (m.getD i default).isDisc) ∘ Nat.succ) (l := List.range n)
    rw [List.length_range] at this
    refine this.mpr fun k hk => ?_
    obtain ⟨_, _, e⟩ := h k (List.mem_range.mp hk)
    show (m.getD (k + 1) default).isDisc = true
    rw [(at_getD e).2]
    rfl
  omega
theorem discs_le {m : List MRow} (hm : Mach m) {i : Nat} {t q : Rat} {d : Nat} (h : m[i]? = some (.gear t q d)) : (discs m).length + 2 ≤ m.length := by
  have lk := lk_le hm
  have : 1 ≤ lkN m := List.countP_pos_iff.mpr ⟨i, List.mem_range.mpr (at_getD h).1, by unfold isLk; rw [(at_getD h).2]; rfl⟩
  omega
theorem chain_good {m : List MRow} (f : Flat0 m) {n : Nat} (n0 : 0 < n) (hl : m.length ≤ 9) (hd : (discs m).length ≤ 5) (hc : ∀ k, k + 1 < n → ∃ t : Int, m[k + 1]? = some (.disc (t : Rat) (k + 2) 0)) {t : Int} {still : Bool} (hlast : m[n]? = some (.disc (t : Rat) (if still then n + 1 else 0) 0)) (hst : still = true → ∃ g : Int, g ≠ 0 ∧ m[n + 1]? = some (.gear (g : Rat) 0 0)) : Good m 1 (n - if still then 1 else 0) := by
  have hm := f.mach
  have he := f.even
  obtain ⟨nl, nr⟩ := at_getD hlast
  have dn : n ≤ (discs m).length := discs_ge fun k hk => by
    by_cases e : k + 1 < n
    · obtain ⟨t, h⟩ := hc k e
      exact ⟨_, _, h⟩
    · rw [show k + 1 = n by omega]
      exact ⟨_, _, hlast⟩
  refine ⟨hm, he, hl, hd, f.nums, by omega, fun T hT => ?_⟩
  have cw := chain_worth f hT hc (n - 1) (by omega)
  rw [show n - 1 + 1 = n by omega] at cw
  have c2 : ∀ t, wt (T 1) (n + t) = wt (T (if still then n + 1 else 0)) t := fun t => by
    rw [← wt_disc hm he hT nl nr t, ← cw (t + 1)]
    congr 1
    omega
  obtain ⟨t0, ht0, h0⟩ := f.src
  obtain ⟨l0, r0⟩ := at_getD h0
  have s0 : ∀ k, wt (T 0) (k + 1) = if k = 0 then 1 else 0 := fun k => wt_src hT l0 (by rw [r0]; rfl) k
  cases hb : still with
  | false =>
    rw [hb] at c2
    show mst _ _ = n - 0
    rw [Nat.sub_zero]
    refine chain_mst ?_ (fun k hk => ?_) dn
    · show wt (T 1) (n + 1) ≠ 0
      rw [c2 1]
      show wt (T 0) (0 + 1) ≠ 0
      rw [s0 0, if_pos rfl]
      decide
    · rw [show k = n + ((k - n - 1) + 1) by omega, c2]
      show wt (T 0) _ = 0
      rw [s0, if_neg (by omega)]
  | true =>
    rw [hb] at c2
    show mst _ _ = n - 1
    obtain ⟨g, hg, h1⟩ := hst hb
    obtain ⟨l1, r1⟩ := at_getD h1
    refine chain_mst (p := n - 1) ?_ (fun k hk => ?_) (by omega)
    · rw [show n - 1 + 1 = n + 0 by omega, c2 0]
      show wt (T (n + 1)) 0 ≠ 0
      rw [wt_0 hT l1, r1]
      show (g : Rat) ≠ 0
      exact fun h => hg (Rat.intCast_eq_zero_iff.mp h)
    · rw [show k = n + ((k - n - 1) + 1) by omega, c2]
      show wt (T (n + 1)) _ = 0
      rw [wt_gear hT l1 r1]
      exact Rat.zero_mul _
theorem own_worth {m : List MRow} (f : Flat0 m) {T : Nat → Nat → Rat} (hT : Turn m T) {i : Nat} {x a : Rat} (h1 : m[i]? = some (.disc x (i + 1) 0)) (h2 : m[i + 1]? = some (.gear (x * a) a i)) : ∀ k, wt (T i) (k + 1) = a * wt (T i) k ∧ wt (T i) 0 = x := fun k => by
  obtain ⟨a1, b1⟩ := at_getD h1
  obtain ⟨a2, b2⟩ := at_getD h2
  have z : wt (T i) 0 = x := by rw [wt_0 hT a1, b1]; rfl
  refine ⟨?_, z⟩
  rw [wt_disc f.mach f.even hT a1 b1 k]
  cases k with
  | zero =>
    rw [wt_0 hT a2, b2, z]
    show x * a = a * x
    grind
  | succ k => exact wt_gear hT a2 b2 k
theorem own_worths {m : List MRow} (f : Flat0 m) {T : Nat → Nat → Rat} (hT : Turn m T) {i : Nat} {x a : Rat} (h1 : m[i]? = some (.disc x (i + 1) 0)) (h2 : m[i + 1]? = some (.gear (x * a) a i)) : wt (T i) 2 = x * a * a ∧ wt (T i) 3 = x * a * a * a ∧ wt (T i) 4 = x * a * a * a * a ∧ wt (T i) 5 = x * a * a * a * a * a ∧ wt (T i) 6 = x * a * a * a * a * a * a := by
  have h := own_worth f hT h1 h2
  have e0 := (h 0).2
  have e1 := (h 0).1
  have e2 := (h 1).1
  have e3 := (h 2).1
  have e4 := (h 3).1
  have e5 := (h 4).1
  have e6 := (h 5).1
  rw [e0] at e1
  have e1 : wt (T i) 1 = a * x := e1
  rw [e1] at e2
  have e2 : wt (T i) 2 = a * (a * x) := e2
  rw [e2] at e3
  have e3 : wt (T i) 3 = a * (a * (a * x)) := e3
  rw [e3] at e4
  have e4 : wt (T i) 4 = a * (a * (a * (a * x))) := e4
  rw [e4] at e5
  have e5 : wt (T i) 5 = a * (a * (a * (a * (a * x)))) := e5
  rw [e5] at e6
  have e6 : wt (T i) 6 = a * (a * (a * (a * (a * (a * x))))) := e6
  rw [e2, e3, e4, e5, e6]
  refine ⟨?_, ?_, ?_, ?_, ?_⟩ <;> grind
theorem hk1 (w : Nat → Rat) : dt 1 (hkl w) = w 2 := dt_1 _
theorem hk2 (w : Nat → Rat) : dt 2 (hkl w) = w 2 * w 4 - w 3 * w 3 := dt_2 _
theorem hk3 (w : Nat → Rat) : dt 3 (hkl w) = w 2 * (w 4 * w 6 - w 5 * w 5) - w 3 * (w 3 * w 6 - w 5 * w 4) + w 4 * (w 3 * w 5 - w 4 * w 4) := dt_3 _
def nz (x : Rat) : Nat := if x = 0 then 0 else 1
theorem nz0 : nz 0 = 0 := if_pos rfl
theorem nz1 {x : Rat} (h : x ≠ 0) : nz x = 1 := if_neg h
theorem mne {x y : Rat} (h : x ≠ 0) (h2 : y ≠ 0) : x * y ≠ 0 := fun e => (Rat.mul_eq_zero.mp e).elim h h2
theorem mst_3 (w : Nat → Rat) : mst w 4 = if dt 3 (hkl w) ≠ 0 then 3 else if dt 2 (hkl w) ≠ 0 then 2 else if dt 1 (hkl w) ≠ 0 then 1 else 0 := by
  show (if _ then 3 else if _ then 2 else if _ then 1 else if _ then 0 else 0) = _
  rw [ite_self]
theorem mst_2 (w : Nat → Rat) : mst w 3 = if dt 2 (hkl w) ≠ 0 then 2 else if dt 1 (hkl w) ≠ 0 then 1 else 0 := by
  show (if _ then 2 else if _ then 1 else if _ then 0 else 0) = _
  rw [ite_self]
theorem mst_1 (w : Nat → Rat) : mst w 2 = if dt 1 (hkl w) ≠ 0 then 1 else 0 := by
  show (if _ then 1 else if _ then 0 else 0) = _
  rw [ite_self]
theorem grow1 {w : Nat → Rat} {c : Rat} (h2 : w 2 = c) : mst w 2 = nz c := by
  rw [mst_1, hk1, h2]
  unfold nz
  by_cases h : c = 0
  · rw [if_neg (fun k => k h), if_pos h]
  · rw [if_pos h, if_neg h]
theorem grow2 {w : Nat → Rat} {c d a b : Rat} (h2 : w 2 = c + d) (h3 : w 3 = c * a + d * b) (h4 : w 4 = c * a * a + d * b * b) (ab : a - b ≠ 0) : mst w 3 = nz c + nz d := by
  have e2 : dt 2 (hkl w) = c * d * ((a - b) * (a - b)) := by rw [hk2, h2, h3, h4]; grind
  rw [mst_2, e2, hk1, h2]
  have s := mne ab ab
  by_cases hc : c = 0 <;> by_cases hd : d = 0
  · subst hc; subst hd
    rw [nz0, if_neg (by grind), if_neg (by grind)]
  · subst hc
    rw [nz0, nz1 hd, if_neg (by grind), if_pos (by grind)]
  · subst hd
    rw [nz0, nz1 hc, if_neg (by grind), if_pos (by grind)]
  · rw [nz1 hc, nz1 hd, if_pos (mne (mne hc hd) s)]
theorem grow3 {w : Nat → Rat} {c d e a b g : Rat} (h2 : w 2 = c + d + e) (h3 : w 3 = c * a + d * b + e * g) (h4 : w 4 = c * a * a + d * b * b + e * g * g) (h5 : w 5 = c * a * a * a + d * b * b * b + e * g * g * g) (h6 : w 6 = c * a * a * a * a + d * b * b * b * b + e * g * g * g * g) (ab : a - b ≠ 0) (ag : a - g ≠ 0) (bg : b - g ≠ 0) : mst w 4 = nz c + nz d + nz e := by
  have e3 : dt 3 (hkl w) = c * d * e * ((a - b) * (a - g) * (b - g) * ((a - b) * (a - g) * (b - g))) := by rw [hk3, h2, h3, h4, h5, h6]; grind
  have e2 : dt 2 (hkl w) = c * d * ((a - b) * (a - b)) + c * e * ((a - g) * (a - g)) + d * e * ((b - g) * (b - g)) := by rw [hk2, h2, h3, h4]; grind
  rw [mst_3, e3, e2, hk1, h2]
  have s := mne (mne ab ag) bg
  have s1 := mne ab ab
  have s2 := mne ag ag
  have s3 := mne bg bg
  by_cases hc : c = 0 <;> by_cases hd : d = 0 <;> by_cases he : e = 0
  · subst hc; subst hd; subst he
    rw [nz0, if_neg (by grind), if_neg (by grind), if_neg (by grind)]
  · subst hc; subst hd
    rw [nz0, nz1 he, if_neg (by grind), if_neg (by grind), if_pos (by grind)]
  · subst hc; subst he
    rw [nz0, nz1 hd, if_neg (by grind), if_neg (by grind), if_pos (by grind)]
  · subst hc
    have := mne (mne hd he) s3
    rw [nz0, nz1 hd, nz1 he, if_neg (by grind), if_pos (by grind)]
  · subst hd; subst he
    rw [nz0, nz1 hc, if_neg (by grind), if_neg (by grind), if_pos (by grind)]
  · subst hd
    have := mne (mne hc he) s2
    rw [nz0, nz1 hc, nz1 he, if_neg (by grind), if_pos (by grind)]
  · subst he
    have := mne (mne hc hd) s1
    rw [nz0, nz1 hc, nz1 hd, if_neg (by grind), if_pos (by grind)]
  · rw [nz1 hc, nz1 hd, nz1 he, if_pos (mne (mne (mne hc hd) he) (mne s s))]
theorem nzI (x a : Int) : nz ((x : Rat) * (a : Rat) * (a : Rat)) = if x ≠ 0 ∧ a ≠ 0 then 1 else 0 := by
  by_cases hx : x = 0
  · subst hx
    rw [if_neg (fun h => h.1 rfl), show (((0 : Int) : Rat) * (a : Rat) * (a : Rat)) = 0 by rw [show ((0 : Int) : Rat) = 0 from rfl]; grind, nz0]
  · by_cases ha : a = 0
    · subst ha
      rw [if_neg (fun h => h.2 rfl), show ((x : Rat) * ((0 : Int) : Rat) * ((0 : Int) : Rat)) = 0 by rw [show ((0 : Int) : Rat) = 0 from rfl]; grind, nz0]
    · rw [if_pos ⟨hx, ha⟩, nz1]
      have hx' : (x : Rat) ≠ 0 := fun h => hx (Rat.intCast_eq_zero_iff.mp h)
      have ha' : (a : Rat) ≠ 0 := fun h => ha (Rat.intCast_eq_zero_iff.mp h)
      exact mne (mne hx' ha') ha'
theorem sub_ne {a b : Int} (h : a ≠ b) : (a : Rat) - (b : Rat) ≠ 0 := fun e => h (Rat.intCast_inj.mp (by grind))
/-- two rows for each disc -/
def pairR (i : Nat) (x a : Int) : List MRow := [.disc (x : Rat) (i + 1) 0, .gear ((x * a : Int) : Rat) (a : Rat) i]
def growM1 (s x a : Int) : List MRow := [.source (s : Rat)] ++ pairR 1 x a
def growM2 (s x a y b t : Int) : List MRow := growM1 s x a ++ pairR 3 y b ++ [.adder (t : Rat) 1 3]
def growM3 (s x a y b z g t u : Int) : List MRow := growM1 s x a ++ pairR 3 y b ++ pairR 5 z g ++ [.adder (t : Rat) 1 3, .adder (u : Rat) 7 5]
def sml (l : List Int) : Prop := ∀ t ∈ l, t.natAbs ≤ 10
theorem flat0_of {m : List MRow} {t : Int} (ht : t.natAbs ≤ 10) (h0 : m[0]? = some (.source (t : Rat))) (h : ∀ i r, 0 < i → m[i]? = some r → (∃ (t : Int) (w : Nat), t.natAbs ≤ 10 ∧ r = .disc (t : Rat) w 0 ∧ w < m.length) ∨ (∃ (t a : Int) (d : Nat), t.natAbs ≤ 10 ∧ a.natAbs ≤ 10 ∧ r = .gear (t : Rat) (a : Rat) d ∧ d < i) ∨ (∃ (t : Int) (x y : Nat), t.natAbs ≤ 10 ∧ r = .adder (t : Rat) x y ∧ x < i ∧ y < i)) : Flat0 m := ⟨⟨t, ht, h0⟩, h⟩
theorem flat_1 {s x a : Int} (h : sml [s, x, a, x * a]) : Flat0 (growM1 s x a) := by
  simp only [sml, List.mem_cons, List.not_mem_nil, or_false, forall_eq_or_imp, forall_eq] at h
  obtain ⟨h1, h2, h3, h4⟩ := h
  refine flat0_of h1 rfl fun i r hi hr => ?_
  match i, hr with
  | 1, hr => cases hr; exact .inl ⟨x, 2, h2, rfl, (by decide : 2 < 3)⟩
  | 2, hr => cases hr; exact .inr (.inl ⟨x * a, a, 1, h4, h3, rfl, by omega⟩)
theorem flat_2 {s x a y b t : Int} (h : sml [s, x, a, x * a, y, b, y * b, t]) : Flat0 (growM2 s x a y b t) := by
  simp only [sml, List.mem_cons, List.not_mem_nil, or_false, forall_eq_or_imp, forall_eq] at h
  obtain ⟨h1, h2, h3, h4, h5, h6, h7, h8⟩ := h
  refine flat0_of h1 rfl fun i r hi hr => ?_
  match i, hr with
  | 1, hr => cases hr; exact .inl ⟨x, 2, h2, rfl, (by decide : 2 < 6)⟩
  | 2, hr => cases hr; exact .inr (.inl ⟨x * a, a, 1, h4, h3, rfl, by omega⟩)
  | 3, hr => cases hr; exact .inl ⟨y, 4, h5, rfl, (by decide : 4 < 6)⟩
  | 4, hr => cases hr; exact .inr (.inl ⟨y * b, b, 3, h7, h6, rfl, by omega⟩)
  | 5, hr => cases hr; exact .inr (.inr ⟨t, 1, 3, h8, rfl, by omega, by omega⟩)
theorem flat_3 {s x a y b z g t u : Int} (h : sml [s, x, a, x * a, y, b, y * b, z, g, z * g, t, u]) : Flat0 (growM3 s x a y b z g t u) := by
  simp only [sml, List.mem_cons, List.not_mem_nil, or_false, forall_eq_or_imp, forall_eq] at h
  obtain ⟨h1, h2, h3, h4, h5, h6, h7, h8, h9, h10, h11, h12⟩ := h
  refine flat0_of h1 rfl fun i r hi hr => ?_
  match i, hr with
  | 1, hr => cases hr; exact .inl ⟨x, 2, h2, rfl, (by decide : 2 < 9)⟩
  | 2, hr => cases hr; exact .inr (.inl ⟨x * a, a, 1, h4, h3, rfl, by omega⟩)
  | 3, hr => cases hr; exact .inl ⟨y, 4, h5, rfl, (by decide : 4 < 9)⟩
  | 4, hr => cases hr; exact .inr (.inl ⟨y * b, b, 3, h7, h6, rfl, by omega⟩)
  | 5, hr => cases hr; exact .inl ⟨z, 6, h8, rfl, (by decide : 6 < 9)⟩
  | 6, hr => cases hr; exact .inr (.inl ⟨z * g, g, 5, h10, h9, rfl, by omega⟩)
  | 7, hr => cases hr; exact .inr (.inr ⟨t, 1, 3, h11, rfl, by omega, by omega⟩)
  | 8, hr => cases hr; exact .inr (.inr ⟨u, 7, 5, h12, rfl, by omega, by omega⟩)
def due1 (x a : Int) : Nat := if x ≠ 0 ∧ a ≠ 0 then 1 else 0
theorem good_1 {s x a : Int} (h : sml [s, x, a, x * a]) : Good (growM1 s x a) 1 (due1 x a) := by
  have f := flat_1 h
  have d : (discs (growM1 s x a)).length = 1 := rfl
  refine ⟨f.mach, f.even, by show 3 ≤ 9; omega, by rw [d]; omega, f.nums, by show 1 < 3; omega, fun T hT => ?_⟩
  rw [d]
  obtain ⟨w2, _⟩ := own_worths f hT (i := 1) (x := (x : Rat)) (a := (a : Rat)) rfl (by rw [← Rat.intCast_mul]; rfl)
  rw [show due1 x a = nz ((x : Rat) * (a : Rat) * (a : Rat)) from (nzI x a).symm]
  exact grow1 w2
theorem good_2 {s x a y b t : Int} (h : sml [s, x, a, x * a, y, b, y * b, t]) (ab : a ≠ b) : Good (growM2 s x a y b t) 5 (due1 x a + due1 y b) := by
  have f := flat_2 h
  have d : (discs (growM2 s x a y b t)).length = 2 := rfl
  refine ⟨f.mach, f.even, by show 6 ≤ 9; omega, by rw [d]; omega, f.nums, by show 5 < 6; omega, fun T hT => ?_⟩
  rw [d]
  obtain ⟨w2, w3, w4, _⟩ := own_worths f hT (i := 1) (x := (x : Rat)) (a := (a : Rat)) rfl (by rw [← Rat.intCast_mul]; rfl)
  obtain ⟨v2, v3, v4, _⟩ := own_worths f hT (i := 3) (x := (y : Rat)) (a := (b : Rat)) rfl (by rw [← Rat.intCast_mul]; rfl)
  have ad := wt_adder hT (i := 5) (by show 5 < 6; omega) (s := (t : Rat)) (x := 1) (y := 3) rfl
  have a2 := ad 1
  have a3 := ad 2
  have a4 := ad 3
  rw [show due1 x a = nz ((x : Rat) * (a : Rat) * (a : Rat)) from (nzI x a).symm, show due1 y b = nz ((y : Rat) * (b : Rat) * (b : Rat)) from (nzI y b).symm]
  exact grow2 (a2.trans (by rw [w2, v2])) (a3.trans (by rw [w3, v3])) (a4.trans (by rw [w4, v4])) (sub_ne ab)
theorem good_3 {s x a y b z g t u : Int} (h : sml [s, x, a, x * a, y, b, y * b, z, g, z * g, t, u]) (ab : a ≠ b) (ag : a ≠ g) (bg : b ≠ g) : Good (growM3 s x a y b z g t u) 8 (due1 x a + due1 y b + due1 z g) := by
  have f := flat_3 h
  have d : (discs (growM3 s x a y b z g t u)).length = 3 := rfl
  refine ⟨f.mach, f.even, by show 9 ≤ 9; omega, by rw [d]; omega, f.nums, by show 8 < 9; omega, fun T hT => ?_⟩
  rw [d]
  obtain ⟨w2, w3, w4, w5, w6⟩ := own_worths f hT (i := 1) (x := (x : Rat)) (a := (a : Rat)) rfl (by rw [← Rat.intCast_mul]; rfl)
  obtain ⟨v2, v3, v4, v5, v6⟩ := own_worths f hT (i := 3) (x := (y : Rat)) (a := (b : Rat)) rfl (by rw [← Rat.intCast_mul]; rfl)
  obtain ⟨u2, u3, u4, u5, u6⟩ := own_worths f hT (i := 5) (x := (z : Rat)) (a := (g : Rat)) rfl (by rw [← Rat.intCast_mul]; rfl)
  have ad := wt_adder hT (i := 7) (by show 7 < 9; omega) (s := (t : Rat)) (x := 1) (y := 3) rfl
  have bd := wt_adder hT (i := 8) (by show 8 < 9; omega) (s := (u : Rat)) (x := 7) (y := 5) rfl
  have key : ∀ k, wt (T 8) (k + 1) = wt (T 1) (k + 1) + wt (T 3) (k + 1) + wt (T 5) (k + 1) := fun k => by rw [bd k, ad k]
  have a2 := key 1
  have a3 := key 2
  have a4 := key 3
  have a5 := key 4
  have a6 := key 5
  rw [show due1 x a = nz ((x : Rat) * (a : Rat) * (a : Rat)) from (nzI x a).symm, show due1 y b = nz ((y : Rat) * (b : Rat) * (b : Rat)) from (nzI y b).symm, show due1 z g = nz ((z : Rat) * (g : Rat) * (g : Rat)) from (nzI z g).symm]
  exact grow3 (a2.trans (by rw [w2, v2, u2])) (a3.trans (by rw [w3, v3, u3])) (a4.trans (by rw [w4, v4, u4])) (a5.trans (by rw [w5, v5, u5])) (a6.trans (by rw [w6, v6, u6])) (sub_ne ab) (sub_ne ag) (sub_ne bg)
def circM (p q : Int) : List MRow := [.source 0, .disc (p : Rat) 2 0, .disc (q : Rat) 3 0, .gear ((-p : Int) : Rat) ((-1 : Int) : Rat) 1]
theorem flat_c {p q : Int} (hp : p.natAbs ≤ 10) (hq : q.natAbs ≤ 10) : Flat0 (circM p q) := by
  refine flat0_of (t := 0) (by decide) rfl fun i r hi hr => ?_
  match i, hr with
  | 1, hr => cases hr; exact .inl ⟨p, 2, hp, rfl, (by decide : 2 < 4)⟩
  | 2, hr => cases hr; exact .inl ⟨q, 3, hq, rfl, (by decide : 3 < 4)⟩
  | 3, hr => cases hr; exact .inr (.inl ⟨-p, -1, 1, by omega, by decide, rfl, by omega⟩)
theorem sum_sq {x y : Rat} (h : x * x + y * y = 0) : x = 0 ∧ y = 0 := by
  have h1 : 0 ≤ x * x := by
    rcases Rat.le_total (a := 0) (b := x) with k | k
    · exact Rat.mul_nonneg k k
    · have : 0 ≤ -x := by grind
      have := Rat.mul_nonneg this this
      grind
  have h2 : 0 ≤ y * y := by
    rcases Rat.le_total (a := 0) (b := y) with k | k
    · exact Rat.mul_nonneg k k
    · have : 0 ≤ -y := by grind
      have := Rat.mul_nonneg this this
      grind
  have e1 : x * x = 0 := by grind
  have e2 : y * y = 0 := by grind
  exact ⟨(Rat.mul_eq_zero.mp e1).elim id id, (Rat.mul_eq_zero.mp e2).elim id id⟩
theorem good_c {p q : Int} (hp : p.natAbs ≤ 10) (hq : q.natAbs ≤ 10) {sh : Nat} (hs : sh = 1 ∨ sh = 2) : Good (circM p q) sh (if p ≠ 0 ∨ q ≠ 0 then 2 else 0) := by
  have f := flat_c hp hq
  have d : (discs (circM p q)).length = 2 := rfl
  refine ⟨f.mach, f.even, by show 4 ≤ 9; omega, by rw [d]; omega, f.nums, by show sh < 4; omega, fun T hT => ?_⟩
  rw [d]
  have l1 : (1 : Nat) < (circM p q).length := by show 1 < 4; omega
  have l2 : (2 : Nat) < (circM p q).length := by show 2 < 4; omega
  have l3 : (3 : Nat) < (circM p q).length := by show 3 < 4; omega
  have c1 := wt_disc f.mach f.even hT l1 (s := (p : Rat)) (w := 2) (d := 0) rfl
  have c2 := wt_disc f.mach f.even hT l2 (s := (q : Rat)) (w := 3) (d := 0) rfl
  have c3 := wt_gear hT l3 (s := ((-p : Int) : Rat)) (q := ((-1 : Int) : Rat)) (d := 1) rfl
  have z1 : wt (T 1) 0 = p := wt_0 hT l1
  have z2 : wt (T 2) 0 = q := wt_0 hT l2
  have z3 : wt (T 3) 0 = ((-p : Int) : Rat) := wt_0 hT l3
  have m1 : ((-1 : Int) : Rat) = -1 := rfl
  have mp : ((-p : Int) : Rat) = -(p : Rat) := Rat.intCast_neg p
  rw [mp] at z3
  have a1 : wt (T 1) 1 = q := (c1 0).trans z2
  have b1 : wt (T 2) 1 = -p := (c2 0).trans z3
  have a2 : wt (T 1) 2 = -p := (c1 1).trans b1
  have g1 : wt (T 3) 1 = -q := by rw [c3 0, m1]; rw [show wt (T 1) (0 + 1) = q from a1]; grind
  have b2 : wt (T 2) 2 = -q := (c2 1).trans g1
  have a3 : wt (T 1) 3 = -q := (c1 2).trans b2
  have g2 : wt (T 3) 2 = p := by rw [c3 1, m1]; rw [show wt (T 1) (1 + 1) = -p from a2]; grind
  have b3 : wt (T 2) 3 = p := (c2 2).trans g2
  have a4 : wt (T 1) 4 = p := (c1 3).trans b3
  have g3 : wt (T 3) 3 = q := by rw [c3 2, m1]; rw [show wt (T 1) (2 + 1) = -q from a3]; grind
  have b4 : wt (T 2) 4 = q := (c2 3).trans g3
  have key : dt 2 (hkl (wt (T sh))) = -((p : Rat) * p + (q : Rat) * q) ∧ ((p : Rat) = 0 → (q : Rat) = 0 → dt 1 (hkl (wt (T sh))) = 0) := by
    rw [hk1, hk2]
    rcases hs with rfl | rfl
    · rw [a2, a3, a4]
      exact ⟨by grind, fun h _ => by rw [h]; grind⟩
    · rw [b2, b3, b4]
      exact ⟨by grind, fun _ h => by rw [h]; grind⟩
  rw [mst_2]
  by_cases h : p ≠ 0 ∨ q ≠ 0
  · rw [if_pos h, if_pos]
    rw [key.1]
    intro e
    obtain ⟨x, y⟩ := sum_sq (x := (p : Rat)) (y := (q : Rat)) (by grind)
    rcases h with h | h
    · exact h (Rat.intCast_eq_zero_iff.mp x)
    · exact h (Rat.intCast_eq_zero_iff.mp y)
  · have p0 : p = 0 := by omega
    have q0 : q = 0 := by omega
    subst p0
    subst q0
    have k1 := key.1
    rw [show ((0 : Int) : Rat) = 0 from rfl] at k1 key
    rw [if_neg h, k1, key.2 rfl rfl, if_neg (by grind), if_neg (by grind)]
theorem discE (x : Int) (w : Nat) : D.tup [.str "disc", .tup [.int x, .int 1], .int w, .int 0] = encR (.disc (x : Rat) w 0) := by rw [encI]; rfl
theorem gearE (x a : Int) (d : Nat) : D.tup [.str "gear", .tup [.int x, .int 1], .tup [.int a, .int 1], .int d] = encR (.gear (x : Rat) (a : Rat) d) := by rw [encI, encI]; rfl
theorem addE (x : Int) (u v : Nat) : D.tup [.str "adder", .tup [.int x, .int 1], .int u, .int v] = encR (.adder (x : Rat) u v) := by rw [encI]; rfl
theorem srcE (x : Int) : D.tup [.str "source", .tup [.int x, .int 1]] = encR (.source (x : Rat)) := by rw [encI]; rfl
theorem appE {m : List MRow} (h : m.length ≤ 100) (r : MRow) : mAppend (encM m) [encR r] = some (encM (m ++ [r]), .non) := by
  show mAppend (.lst (m.map encR)) _ = _
  rw [append_l (by rw [List.length_map, sizeLine_eq]; omega)]
  show _ = some (D.lst ((m ++ [r]).map encR), _)
  rw [List.map_append]
  rfl
/-- the disc of the growing ones, and its gear -/
theorem growing_eq {k : Int} {b : D} (B : Bag k b) (hk : k < 2 ^ 18) : ∃ (m : List MRow) (sh due : Nat) (b' : D), d__law_growing [b] = .ret (.tup [encM m, .int sh, .int due]) [b'] ∧ Good m sh due ∧ Bag (k + 10) b' := by
  obtain ⟨n, b1, e1, n0, n3, B1⟩ := take_eq (n := 3) B (by omega) (by omega) (by omega)
  obtain ⟨a, b2, e2, a0, a7, B2⟩ := take_eq (n := 7) B1 (by omega) (by omega) (by omega)
  obtain ⟨s, b3, e3, s0, s9, B3⟩ := take_eq (n := 9) B2 (by omega) (by omega) (by omega)
  unfold d__law_growing
  generalize hG : (sSeq (sSet 6 (eBin dSub _ _)) _) = G
  generalize hH : (sSeq (sDrop (eMut "list" 3 mAppend (aCons (eTup (aCons (eC (.str "adder")) _)) _))) _) = H
  have fl : ∀ i : Int, flat2 (.ok (.int i) ([] : List D)) = .ok (.int i) [] := fun _ => rfl
  have b1' : ∀ (t : Nat) (c : Int) (m : List MRow) (q : Nat) (b : D) (k : Int) (x6 x7 x1 : D), Bag k b → k < 2 ^ 19 → dIx (.lst [.int (a - 3), .int 4, .int (-4)]) (.int t) = some (.int c) → c.natAbs ≤ 4 → m.length ≤ 20 → 0 < m.length → ∃ (x : Int) (b' : D), x.natAbs ≤ 2 ∧ (x * c).natAbs ≤ 8 ∧ Bag (k + 1) b' ∧ G [b, x1, .lst [.int (a - 3), .int 4, .int (-4)], encM m, .int q, .int t, x6, x7] = .nxt [b', x1, .lst [.int (a - 3), .int 4, .int (-4)], encM (m ++ pairR m.length x c), .int (q + due1 x c : Nat), .int t, .int x, x7] := by
    intro t c m q b k x6 x7 x1 B hk hi hc hm hm0
    obtain ⟨x, b', e, x0, x5, B'⟩ := take_eq (n := 5) B (by omega) (by omega) (by omega)
    refine ⟨x - 2, b', by omega, ?_, B', ?_⟩
    · rw [Int.natAbs_mul]
      exact Nat.mul_le_mul (by omega : (x - 2).natAbs ≤ 2) hc
    · have l1 : ((m.length : Nat) : Int) + 1 = ((m.length + 1 : Nat) : Int) := by omega
      have ap1 := appE (m := m) (by omega) (.disc ((x - 2 : Int) : Rat) (m.length + 1) 0)
      have lm := lenM m
      have lm1 := lenM (m ++ [.disc ((x - 2 : Int) : Rat) (m.length + 1) 0])
      rw [List.length_append] at lm1
      have lm1 : fLen [encM (m ++ [.disc ((x - 2 : Int) : Rat) (m.length + 1) 0])] = some (.int ((m.length + 1 : Nat) : Int)) := lm1
      have l2 : ((m.length + 1 : Nat) : Int) - 1 = (m.length : Int) := by omega
      have mu := mul_ii (i := x - 2) (j := c) (mulOk_l (by omega) (by omega))
      have ap2 := appE (m := m ++ [.disc ((x - 2 : Int) : Rat) (m.length + 1) 0]) (by rw [List.length_append]; show m.length + 1 ≤ 100; omega) (.gear (((x - 2) * c : Int) : Rat) (c : Rat) m.length)
      have pr : m ++ [.disc ((x - 2 : Int) : Rat) (m.length + 1) 0] ++ [.gear (((x - 2) * c : Int) : Rat) (c : Rat) m.length] = m ++ pairR m.length (x - 2) c := by rw [List.append_assoc]; rfl
      rw [pr] at ap2
      have d1 := discE (x - 2) (m.length + 1)
      have g1 := gearE ((x - 2) * c) c m.length
      have it : ∀ m, isTy "list" (encM m) = true := fun m => isTy_M m
      have du : (q : Int) + (if decide (x - 2 ≠ 0) = true ∧ decide (c ≠ 0) = true then 1 else 0) = ((q + due1 (x - 2) c : Nat) : Int) := by
        unfold due1
        by_cases h1 : x - 2 ≠ 0 <;> by_cases h2 : c ≠ 0
        · rw [if_pos ⟨by simpa using h1, by simpa using h2⟩, if_pos ⟨h1, h2⟩]; omega
        · rw [if_neg (fun h => h2 (by simpa using h.2)), if_neg (fun h => h2 h.2)]; omega
        · rw [if_neg (fun h => h1 (by simpa using h.1)), if_neg (fun h => h1 h.1)]; omega
        · rw [if_neg (fun h => h1 (by simpa using h.1)), if_neg (fun h => h1 h.1)]; omega
      have ne1 : dNe (.int (x - 2)) (.int 0) = some (.bl (decide (x - 2 ≠ 0))) := ne_ii
      have ne2 : dNe (.int c) (.int 0) = some (.bl (decide (c ≠ 0))) := ne_ii
      rw [← hG]
      obtain ⟨p1, hp1⟩ : ∃ p, p = decide (x - 2 ≠ 0) := ⟨_, rfl⟩
      obtain ⟨p2, hp2⟩ : ∃ p, p = decide (c ≠ 0) := ⟨_, rfl⟩
      rw [← hp1, ← hp2] at du
      rw [← hp1] at ne1
      rw [← hp2] at ne2
      have i1 : fInt [.bl true] = some (.int 1) := rfl
      have i0 : fInt [.bl false] = some (.int 0) := rfl
      have le0 : encM m = .lst (m.map encR) := rfl
      clear hp1 hp2
      cases p1 <;> cases p2
      · have du : (q : Int) + 0 = _ := du
        simp only [EW, e, lm, l1, d1, it, ap1, lm1, l2, hi, mu, g1, ap2, ne1, ne2, i0, du]
      · have du : (q : Int) + 0 = _ := du
        simp only [EW, e, lm, l1, d1, it, ap1, lm1, l2, hi, mu, g1, ap2, ne1, ne2, i0, du]
      · have du : (q : Int) + 0 = _ := du
        simp only [EW, e, lm, l1, d1, it, ap1, lm1, l2, hi, mu, g1, ap2, ne1, ne2, i0, du]
      · have du : (q : Int) + 1 = _ := du
        simp only [EW, e, lm, l1, d1, it, ap1, lm1, l2, hi, mu, g1, ap2, ne1, ne2, i1, du]
  have b2' : ∀ (t sh : Nat) (m : List MRow) (b : D) (k : Int) (x1 x2 x4 x6 : D), Bag k b → k < 2 ^ 19 → t ≤ 5 → m.length ≤ 20 → ∃ (x : Int) (b' : D), x.natAbs ≤ 4 ∧ Bag (k + 1) b' ∧ H [b, x1, x2, encM m, x4, .int t, x6, .int sh] = .nxt [b', x1, x2, encM (m ++ [.adder (x : Rat) sh (2 * t + 1)]), x4, .int t, x6, .int m.length] := by
    intro t sh m b k x1 x2 x4 x6 B hk ht hm
    obtain ⟨x, b', e, x0, x9, B'⟩ := take_eq (n := 9) B (by omega) (by omega) (by omega)
    refine ⟨x - 4, b', by omega, B', ?_⟩
    have g1 := mul_ii (mulOk_l (i := 2) (j := (t : Int)) (by omega) (by omega))
    have g2 : (2 : Int) * t + 1 = ((2 * t + 1 : Nat) : Int) := by omega
    have a1 := addE (x - 4) sh (2 * t + 1)
    have ap := appE (m := m) (by omega) (.adder ((x - 4 : Int) : Rat) sh (2 * t + 1))
    have lm1 := lenM (m ++ [.adder ((x - 4 : Int) : Rat) sh (2 * t + 1)])
    rw [List.length_append] at lm1
    have lm1 : fLen [encM (m ++ [.adder ((x - 4 : Int) : Rat) sh (2 * t + 1)])] = some (.int ((m.length + 1 : Nat) : Int)) := lm1
    have l2 : ((m.length + 1 : Nat) : Int) - 1 = (m.length : Int) := by omega
    have it : ∀ m, isTy "list" (encM m) = true := fun m => isTy_M m
    rw [← hH]
    simp only [EW, e, g1, g2, a1, it, ap, lm1, l2]
  have ra : dIx (.lst [.int (a - 3), .int 4, .int (-4)]) (.int (0 : Nat)) = some (.int (a - 3)) := ix_lN (n := 0) rfl
  have rb : dIx (.lst [.int (a - 3), .int 4, .int (-4)]) (.int (1 : Nat)) = some (.int 4) := ix_lN (n := 1) rfl
  have rc : dIx (.lst [.int (a - 3), .int 4, .int (-4)]) (.int (2 : Nat)) = some (.int (-4)) := ix_lN (n := 2) rfl
  have sE := srcE (s - 4)
  have ng : dNeg (.int 4) = some (.int (-4)) := rfl
  have sE1 : D.lst [encR (.source ((s - 4 : Int) : Rat))] = encM [.source ((s - 4 : Int) : Rat)] := rfl
  have fnil : ∀ (G : List D → SO) (σ : List D), forL (.nm 5) G [] σ = .nxt σ := fun _ _ => rfl
  have nn : n = 0 ∨ n = 1 ∨ n = 2 := by omega
  have bt : ∀ (t : Nat) (σ : List D) (j : Nat), bindT (.nm j) (.int t) σ = some (σ.set j (.int t)) := fun _ _ _ => rfl
  rcases nn with rfl | rfl | rfl
  · obtain ⟨M0, h0⟩ : ∃ M, M = ([.source ((s - 4 : Int) : Rat)] : List MRow) := ⟨_, rfl⟩
    rw [← h0] at sE1
    have l0 : M0.length = 1 := by rw [h0]; rfl
    obtain ⟨x, c1, hx, hxa, C1, E1⟩ := b1' 0 (a - 3) M0 (0) b3 _ .non .non (.int 1) B3 (by omega) ra (by omega) (by omega) (by omega)
    rw [l0] at E1
    obtain ⟨M1, h1⟩ : ∃ M, M = M0 ++ pairR 1 x (a - 3) := ⟨_, rfl⟩
    rw [← h1] at E1
    have l1 : M1.length = 3 := by rw [h1, List.length_append, l0]; rfl
    obtain ⟨q1, hq1⟩ : ∃ q, q = 0 + due1 x (a - 3) := ⟨_, rfl⟩
    rw [← hq1] at E1
    have g := good_1 (s := s - 4) (x := x) (a := a - 3) (by intro t ht; simp only [List.mem_cons, List.not_mem_nil, or_false] at ht; omega)
    have eM : M1 = growM1 (s - 4) x (a - 3) := by rw [h1, h0]; rfl
    have eq : q1 = due1 x (a - 3) := by rw [hq1, Nat.zero_add]
    rw [← eM, ← eq] at g
    refine ⟨M1, 1, q1, c1, ?_, g, C1.mono (by omega)⟩
    have r1 : gRng [.int 1] = some [.int (0 : Nat)] := rngL1 (by omega) (by omega)
    have r2 : gRng [.int 1, .int 1] = some [] := rngL2 (by omega) (by omega) (by omega) (by omega)
    have f1 := forL_n (T := .nm 5) (G := G) (d := .int (0 : Nat)) (ds := []) (σ := [b3, .int 1, .lst [.int (a - 3), .int 4, .int (-4)], encM M0, .int 0, .non, .non, .non]) rfl E1
    have F := f1
    have z1 : (1 : Int) + 0 = 1 := rfl
    simp only [EW, e1, z1, e2, ng, e3, sE, sE1, r1, F, fnil, r2]
    rfl
  · obtain ⟨M0, h0⟩ : ∃ M, M = ([.source ((s - 4 : Int) : Rat)] : List MRow) := ⟨_, rfl⟩
    rw [← h0] at sE1
    have l0 : M0.length = 1 := by rw [h0]; rfl
    obtain ⟨x, c1, hx, hxa, C1, E1⟩ := b1' 0 (a - 3) M0 (0) b3 _ .non .non (.int 2) B3 (by omega) ra (by omega) (by omega) (by omega)
    rw [l0] at E1
    obtain ⟨M1, h1⟩ : ∃ M, M = M0 ++ pairR 1 x (a - 3) := ⟨_, rfl⟩
    rw [← h1] at E1
    have l1 : M1.length = 3 := by rw [h1, List.length_append, l0]; rfl
    obtain ⟨q1, hq1⟩ : ∃ q, q = 0 + due1 x (a - 3) := ⟨_, rfl⟩
    rw [← hq1] at E1
    obtain ⟨y, c2, hy, hya, C2, E2⟩ := b1' 1 4 M1 (q1) c1 _ (.int x) .non (.int 2) C1 (by omega) rb (by omega) (by omega) (by omega)
    rw [l1] at E2
    obtain ⟨M2, h2⟩ : ∃ M, M = M1 ++ pairR 3 y 4 := ⟨_, rfl⟩
    rw [← h2] at E2
    have l2 : M2.length = 5 := by rw [h2, List.length_append, l1]; rfl
    obtain ⟨q2, hq2⟩ : ∃ q, q = q1 + due1 y 4 := ⟨_, rfl⟩
    rw [← hq2] at E2
    obtain ⟨t, c3, ht, C3, E3⟩ := b2' 1 1 M2 c2 _ (.int 2) (.lst [.int (a - 3), .int 4, .int (-4)]) (.int (q2 : Nat)) (.int y) C2 (by omega) (by omega) (by omega)
    rw [l2, show 2 * 1 + 1 = 3 from rfl] at E3
    obtain ⟨M3, h3⟩ : ∃ M, M = M2 ++ [.adder (t : Rat) 1 3] := ⟨_, rfl⟩
    rw [← h3] at E3
    have l3 : M3.length = 6 := by rw [h3, List.length_append, l2]; rfl
    have g := good_2 (s := s - 4) (x := x) (a := a - 3) (y := y) (b := 4) (t := t) (by intro t ht; simp only [List.mem_cons, List.not_mem_nil, or_false] at ht; omega) (by omega)
    have eM : M3 = growM2 (s - 4) x (a - 3) y 4 t := by rw [h3, h2, h1, h0]; rfl
    have eq : q2 = due1 x (a - 3) + due1 y 4 := by rw [hq2, hq1, Nat.zero_add]
    rw [← eM, ← eq] at g
    refine ⟨M3, 5, q2, c3, ?_, g, C3.mono (by omega)⟩
    have r1 : gRng [.int 2] = some [.int (0 : Nat), .int (1 : Nat)] := rngL1 (by omega) (by omega)
    have r2 : gRng [.int 1, .int 2] = some [.int (1 : Nat)] := rngL2 (by omega) (by omega) (by omega) (by omega)
    have f1 := forL_n (T := .nm 5) (G := G) (d := .int (0 : Nat)) (ds := [.int (1 : Nat)]) (σ := [b3, .int 2, .lst [.int (a - 3), .int 4, .int (-4)], encM M0, .int 0, .non, .non, .non]) rfl E1
    have f2 := forL_n (T := .nm 5) (G := G) (d := .int (1 : Nat)) (ds := []) (σ := [c1, .int 2, .lst [.int (a - 3), .int 4, .int (-4)], encM M1, .int (q1 : Nat), .int (0 : Nat), .int x, .non]) rfl E2
    have F := f1.trans f2
    have g1 := forL_n (T := .nm 5) (G := H) (d := .int (1 : Nat)) (ds := []) (σ := [c2, .int 2, .lst [.int (a - 3), .int 4, .int (-4)], encM M2, .int (q2 : Nat), .int (1 : Nat), .int y, .int 1]) rfl E3
    have Hh := g1
    have z1 : (1 : Int) + 1 = 2 := rfl
    simp only [EW, e1, z1, e2, ng, e3, sE, sE1, r1, F, fnil, r2, Hh]
  · obtain ⟨M0, h0⟩ : ∃ M, M = ([.source ((s - 4 : Int) : Rat)] : List MRow) := ⟨_, rfl⟩
    rw [← h0] at sE1
    have l0 : M0.length = 1 := by rw [h0]; rfl
    obtain ⟨x, c1, hx, hxa, C1, E1⟩ := b1' 0 (a - 3) M0 (0) b3 _ .non .non (.int 3) B3 (by omega) ra (by omega) (by omega) (by omega)
    rw [l0] at E1
    obtain ⟨M1, h1⟩ : ∃ M, M = M0 ++ pairR 1 x (a - 3) := ⟨_, rfl⟩
    rw [← h1] at E1
    have l1 : M1.length = 3 := by rw [h1, List.length_append, l0]; rfl
    obtain ⟨q1, hq1⟩ : ∃ q, q = 0 + due1 x (a - 3) := ⟨_, rfl⟩
    rw [← hq1] at E1
    obtain ⟨y, c2, hy, hya, C2, E2⟩ := b1' 1 4 M1 (q1) c1 _ (.int x) .non (.int 3) C1 (by omega) rb (by omega) (by omega) (by omega)
    rw [l1] at E2
    obtain ⟨M2, h2⟩ : ∃ M, M = M1 ++ pairR 3 y 4 := ⟨_, rfl⟩
    rw [← h2] at E2
    have l2 : M2.length = 5 := by rw [h2, List.length_append, l1]; rfl
    obtain ⟨q2, hq2⟩ : ∃ q, q = q1 + due1 y 4 := ⟨_, rfl⟩
    rw [← hq2] at E2
    obtain ⟨z, c3, hz, hza, C3, E3⟩ := b1' 2 (-4) M2 (q2) c2 _ (.int y) .non (.int 3) C2 (by omega) rc (by omega) (by omega) (by omega)
    rw [l2] at E3
    obtain ⟨M3, h3⟩ : ∃ M, M = M2 ++ pairR 5 z (-4) := ⟨_, rfl⟩
    rw [← h3] at E3
    have l3 : M3.length = 7 := by rw [h3, List.length_append, l2]; rfl
    obtain ⟨q3, hq3⟩ : ∃ q, q = q2 + due1 z (-4) := ⟨_, rfl⟩
    rw [← hq3] at E3
    obtain ⟨t, c4, ht, C4, E4⟩ := b2' 1 1 M3 c3 _ (.int 3) (.lst [.int (a - 3), .int 4, .int (-4)]) (.int (q3 : Nat)) (.int z) C3 (by omega) (by omega) (by omega)
    rw [l3, show 2 * 1 + 1 = 3 from rfl] at E4
    obtain ⟨M4, h4⟩ : ∃ M, M = M3 ++ [.adder (t : Rat) 1 3] := ⟨_, rfl⟩
    rw [← h4] at E4
    have l4 : M4.length = 8 := by rw [h4, List.length_append, l3]; rfl
    obtain ⟨u, c5, hu, C5, E5⟩ := b2' 2 7 M4 c4 _ (.int 3) (.lst [.int (a - 3), .int 4, .int (-4)]) (.int (q3 : Nat)) (.int z) C4 (by omega) (by omega) (by omega)
    rw [l4, show 2 * 2 + 1 = 5 from rfl] at E5
    obtain ⟨M5, h5⟩ : ∃ M, M = M4 ++ [.adder (u : Rat) 7 5] := ⟨_, rfl⟩
    rw [← h5] at E5
    have l5 : M5.length = 9 := by rw [h5, List.length_append, l4]; rfl
    have g := good_3 (s := s - 4) (x := x) (a := a - 3) (y := y) (b := 4) (z := z) (g := -4) (t := t) (u := u) (by intro t ht; simp only [List.mem_cons, List.not_mem_nil, or_false] at ht; omega) (by omega) (by omega) (by omega)
    have eM : M5 = growM3 (s - 4) x (a - 3) y 4 z (-4) t u := by rw [h5, h4, h3, h2, h1, h0]; rfl
    have eq : q3 = due1 x (a - 3) + due1 y 4 + due1 z (-4) := by rw [hq3, hq2, hq1, Nat.zero_add]
    rw [← eM, ← eq] at g
    refine ⟨M5, 8, q3, c5, ?_, g, C5.mono (by omega)⟩
    have r1 : gRng [.int 3] = some [.int (0 : Nat), .int (1 : Nat), .int (2 : Nat)] := rngL1 (by omega) (by omega)
    have r2 : gRng [.int 1, .int 3] = some [.int (1 : Nat), .int (2 : Nat)] := rngL2 (by omega) (by omega) (by omega) (by omega)
    have f1 := forL_n (T := .nm 5) (G := G) (d := .int (0 : Nat)) (ds := [.int (1 : Nat), .int (2 : Nat)]) (σ := [b3, .int 3, .lst [.int (a - 3), .int 4, .int (-4)], encM M0, .int 0, .non, .non, .non]) rfl E1
    have f2 := forL_n (T := .nm 5) (G := G) (d := .int (1 : Nat)) (ds := [.int (2 : Nat)]) (σ := [c1, .int 3, .lst [.int (a - 3), .int 4, .int (-4)], encM M1, .int (q1 : Nat), .int (0 : Nat), .int x, .non]) rfl E2
    have f3 := forL_n (T := .nm 5) (G := G) (d := .int (2 : Nat)) (ds := []) (σ := [c2, .int 3, .lst [.int (a - 3), .int 4, .int (-4)], encM M2, .int (q2 : Nat), .int (1 : Nat), .int y, .non]) rfl E3
    have F := f1.trans (f2.trans f3)
    have g1 := forL_n (T := .nm 5) (G := H) (d := .int (1 : Nat)) (ds := [.int (2 : Nat)]) (σ := [c3, .int 3, .lst [.int (a - 3), .int 4, .int (-4)], encM M3, .int (q3 : Nat), .int (2 : Nat), .int z, .int 1]) rfl E4
    have g2 := forL_n (T := .nm 5) (G := H) (d := .int (2 : Nat)) (ds := []) (σ := [c4, .int 3, .lst [.int (a - 3), .int 4, .int (-4)], encM M4, .int (q3 : Nat), .int (1 : Nat), .int z, .int 7]) rfl E5
    have Hh := g1.trans g2
    have z1 : (1 : Int) + 2 = 3 := rfl
    simp only [EW, e1, z1, e2, ng, e3, sE, sE1, r1, F, fnil, r2, Hh]
theorem circling_eq {k : Int} {b : D} (B : Bag k b) (hk : k < 2 ^ 18) : ∃ (m : List MRow) (sh due : Nat) (b' : D), d__law_circling [b] = .ret (.tup [encM m, .int sh, .int due]) [b'] ∧ Good m sh due ∧ Bag (k + 10) b' := by
  obtain ⟨p, b1, e1, p0, p5, B1⟩ := take_eq (n := 5) B (by omega) (by omega) (by omega)
  obtain ⟨q, b2, e2, q0, q5, B2⟩ := take_eq (n := 5) B1 (by omega) (by omega) (by omega)
  obtain ⟨s, b3, e3, s0, s2, B3⟩ := take_eq (n := 2) B2 (by omega) (by omega) (by omega)
  obtain ⟨s, rfl⟩ : ∃ i : Nat, s = i := ⟨s.toNat, by omega⟩
  have g := good_c (p := p - 2) (q := q - 2) (by omega) (by omega) (sh := 1 + s) (by omega)
  refine ⟨_, 1 + s, _, b3, ?_, g, B3.mono (by omega)⟩
  have d1 := discE (p - 2) 2
  have d2 := discE (q - 2) 3
  have g1 := gearE (0 - (p - 2)) (-1) 1
  have s1 := srcE 0
  have n1 : dNeg (.int 1) = some (.int (-1)) := rfl
  have eM : D.lst [encR (.source ((0 : Int) : Rat)), encR (.disc ((p - 2 : Int) : Rat) 2 0), encR (.disc ((q - 2 : Int) : Rat) 3 0), encR (.gear ((0 - (p - 2) : Int) : Rat) ((-1 : Int) : Rat) 1)] = encM (circM (p - 2) (q - 2)) := by
    unfold circM
    rw [show (0 : Int) - (p - 2) = -(p - 2) by omega]
    rfl
  have sh : (1 : Int) + (s : Int) = ((1 + s : Nat) : Int) := by omega
  have ne1 : dNe (.int (p - 2)) (.int 0) = some (.bl (decide (p - 2 ≠ 0))) := ne_ii
  have ne2 : dNe (.int (q - 2)) (.int 0) = some (.bl (decide (q - 2 ≠ 0))) := ne_ii
  have i1 : fInt [.bl true] = some (.int 1) := rfl
  have i0 : fInt [.bl false] = some (.int 0) := rfl
  have m1 := mul_ii (i := 2) (j := 1) (mulOk_l (by omega) (by omega))
  have m0 := mul_ii (i := 2) (j := 0) (mulOk_l (by omega) (by omega))
  have d1 : D.tup [.str "disc", .tup [.int (p - 2), .int 1], .int 2, .int 0] = _ := d1
  have d2 : D.tup [.str "disc", .tup [.int (q - 2), .int 1], .int 3, .int 0] = _ := d2
  have g1 : D.tup [.str "gear", .tup [.int (0 - (p - 2)), .int 1], .tup [.int (-1), .int 1], .int 1] = _ := g1
  unfold d__law_circling
  by_cases h1 : p - 2 ≠ 0
  · rw [decide_eq_true h1] at ne1
    rw [if_pos (.inl h1)]
    have r : D.int (2 * 1) = .int ((2 : Nat) : Int) := rfl
    simp only [EW, e1, e2, e3, d1, d2, g1, s1, n1, eM, sh, ne1, i1, m1, r]
  · rw [decide_eq_false h1] at ne1
    by_cases h2 : q - 2 ≠ 0
    · rw [decide_eq_true h2] at ne2
      rw [if_pos (.inr h2)]
      have r : D.int (2 * 1) = .int ((2 : Nat) : Int) := rfl
      simp only [EW, e1, e2, e3, d1, d2, g1, s1, n1, eM, sh, ne1, ne2, i1, m1, r]
    · rw [decide_eq_false h2] at ne2
      rw [if_neg (fun h => h.elim h1 h2)]
      have r : D.int (2 * 0) = .int ((0 : Nat) : Int) := rfl
      simp only [EW, e1, e2, e3, d1, d2, g1, s1, n1, eM, sh, ne1, ne2, i0, m0, r]
/-- the rows of a chain as they grow -/
def chR (st : List Int) : List MRow := st.mapIdx fun (k : Nat) (x : Int) => MRow.disc (x : Rat) (k + 2) 0
theorem chR_snoc (st : List Int) (x : Int) : chR (st ++ [x]) = chR st ++ [.disc (x : Rat) (st.length + 2) 0] := by
  unfold chR
  rw [List.mapIdx_append]
  simp
theorem chR_len (st : List Int) : (chR st).length = st.length := by unfold chR; rw [List.length_mapIdx]
theorem chR_at {st : List Int} {k : Nat} (h : k < st.length) : (chR st)[k]? = some (.disc ((st[k] : Int) : Rat) (k + 2) 0) := by
  unfold chR
  rw [List.getElem?_mapIdx, List.getElem?_eq_getElem h]
  rfl
/-- idle discs -/
def idleR (l : List (Int × Nat)) : List MRow := l.map fun p => .disc (p.1 : Rat) p.2 0
structure ChP (R : List MRow) (n : Nat) (st s : Int) : Prop where
  len : R.length = 1 + n + st.toNat
  src : R[0]? = some (.source ((s - 4 : Int) : Rat))
  chn : ∀ i, i + 1 < n → ∃ t : Int, R[i + 1]? = some (.disc (t : Rat) (i + 2) 0)
  lst : ∃ t : Int, R[n]? = some (.disc (t : Rat) (if decide (st = 1) = true then n + 1 else 0) 0)
  ger : st = 1 → ∃ g : Int, g ≠ 0 ∧ R[n + 1]? = some (.gear (g : Rat) 0 0)
  all : ∀ (i : Nat) (r : MRow), 0 < i → R[i]? = some r → (∃ (t : Int) (w : Nat), t.natAbs ≤ 10 ∧ r = .disc (t : Rat) w 0 ∧ w < 1 + n + st.toNat) ∨ (∃ (t a : Int) (d : Nat), t.natAbs ≤ 10 ∧ a.natAbs ≤ 10 ∧ r = .gear (t : Rat) (a : Rat) d ∧ d < i)
theorem chain_eq {k : Int} {b : D} (B : Bag k b) (hk : k < 2 ^ 18) : ∃ (m : List MRow) (sh due : Nat) (b' : D), d__law_chain [b] = .ret (.tup [encM m, .int sh, .int due]) [b'] ∧ Good m sh due ∧ Bag (k + 30) b' := by
  obtain ⟨n, b1, e1, n0, n5, B1⟩ := take_eq (n := 5) B (by omega) (by omega) (by omega)
  obtain ⟨st, b2, e2, st0, st2, B2⟩ := take_eq (n := 2) B1 (by omega) (by omega) (by omega)
  obtain ⟨idl, b3, e3, i0, i3, B3⟩ := take_eq (n := 3) B2 (by omega) (by omega) (by omega)
  obtain ⟨s, b4, e4, s0, s9, B4⟩ := take_eq (n := 9) B3 (by omega) (by omega) (by omega)
  obtain ⟨n, hn⟩ : ∃ m : Nat, 1 + n = m := ⟨(1 + n).toNat, by omega⟩
  have sE := srcE (s - 4)
  have sE1 : D.lst [encR (.source ((s - 4 : Int) : Rat))] = encM [.source ((s - 4 : Int) : Rat)] := rfl
  have it : ∀ m, isTy "list" (encM m) = true := fun m => isTy_M m
  unfold d__law_chain
  generalize hG : (sDrop (eMut "list" 4 mAppend (aCons (eTup (aCons (eC (.str "disc")) (aCons _ (aCons (eBin dAdd (eVar 5) (eC (.int 2))) _)))) _))) = G
  generalize hI : (sDrop (eMut "list" 4 mAppend (aCons (eTup (aCons (eC (.str "disc")) (aCons _ (aCons (eCall d__law_take [0] _) _)))) _))) = I
  have r1 : gRng [.int (n : Int)] = some (rngD 0 n) := rngN n (by omega)
  obtain ⟨_, E1, xs, x5, c1, rfl, lx, hx, C1⟩ := forL_rng (T := .nm 5) (G := G) n (fun j σ => ∃ (xs : List Int) (x5 c : D), σ = [c, .int n, .int st, .int idl, encM ([.source ((s - 4 : Int) : Rat)] ++ chR xs), x5] ∧ xs.length = j ∧ (∀ t ∈ xs, t.natAbs ≤ 4) ∧ Bag (k + 4 + j) c) [b4, .int n, .int st, .int idl, encM [.source ((s - 4 : Int) : Rat)], .non] ⟨[], _, _, rfl, rfl, (fun t h => by cases h), B4.mono (by omega)⟩ (by
    rintro j σ hj ⟨xs, x5, c, rfl, lx, hx, C⟩
    obtain ⟨x, c', e, x0, x9, C'⟩ := take_eq (n := 9) C (by omega) (by omega) (by omega)
    have dE := discE (x - 4) (j + 2)
    have j2 : (j : Int) + 2 = ((j + 2 : Nat) : Int) := by omega
    have ap := appE (m := [.source ((s - 4 : Int) : Rat)] ++ chR xs) (by simp [chR_len]; omega) (.disc ((x - 4 : Int) : Rat) (j + 2) 0)
    have ee : [MRow.source ((s - 4 : Int) : Rat)] ++ chR xs ++ [.disc ((x - 4 : Int) : Rat) (j + 2) 0] = [.source ((s - 4 : Int) : Rat)] ++ chR (xs ++ [x - 4]) := by rw [chR_snoc, lx, List.append_assoc]
    rw [ee] at ap
    obtain ⟨M, hM⟩ : ∃ M, M = [MRow.source ((s - 4 : Int) : Rat)] ++ chR xs := ⟨_, rfl⟩
    obtain ⟨M', hM'⟩ : ∃ M, M = [MRow.source ((s - 4 : Int) : Rat)] ++ chR (xs ++ [x - 4]) := ⟨_, rfl⟩
    rw [← hM, ← hM'] at ap
    refine ⟨[c, .int n, .int st, .int idl, encM M, .int j], [c', .int n, .int st, .int idl, encM M', .int j], by rw [hM]; rfl, ?_, xs ++ [x - 4], _, _, by rw [hM'], by simp [lx], fun t ht => ?_, C'.mono (by omega)⟩
    · rw [← hG]
      simp only [EW, e, dE, j2, it, ap]
    · rcases List.mem_append.mp ht with h | h
      · exact hx t h
      · rw [List.mem_singleton.mp h]; omega)
  obtain ⟨x5', hx5⟩ : ∃ z, z = x5 := ⟨_, rfl⟩
  have n1 : 1 ≤ n := by omega
  have last : n - 1 < xs.length := by omega
  -- the last one of the chain, and what it stands upon
  have mid : ∃ (R : List MRow) (c2 : D), (∀ (J : List D → SO), (sSeq (sIf (tOf (eBin dEq (eVar 2) (eC (.int 1)))) (sDrop (eMut "list" 4 mAppend (aCons (eTup (aCons (eC (.str "gear")) (aCons (eTup (aCons (eBin dAdd (eC (.int 1)) (eCall d__law_take [0] (aSlot 0 (aCons (eC (.int 6)) aNil)))) (aCons (eC (.int 1)) aNil))) (aCons (eTup (aCons (eC (.int 0)) (aCons (eC (.int 1)) aNil))) (aCons (eC (.int 0)) aNil))))) aNil))) (sSetIx 4 (eTup (aCons (eC (.str "disc")) (aCons (eFlat (eBin dIx (eBin dIx (eVar 4) (eVar 1)) (eC (.int 1)))) (aCons (eC (.int 0)) (aCons (eC (.int 0)) aNil))))) (eVar 1))) J) [c1, .int n, .int st, .int idl, encM ([.source ((s - 4 : Int) : Rat)] ++ chR xs), x5] = J [c2, .int n, .int st, .int idl, encM R, x5]) ∧ Bag (k + 10) c2 ∧ ChP R n st s := by
    have L1 : ([MRow.source ((s - 4 : Int) : Rat)] ++ chR xs).length = 1 + n := by simp [chR_len, lx]; omega
    have at1 : ∀ i, i < n → ([MRow.source ((s - 4 : Int) : Rat)] ++ chR xs)[i + 1]? = some (.disc ((xs.getD i 0 : Int) : Rat) (i + 2) 0) := fun i hi => by
      rw [List.getElem?_append_right (by simp), show i + 1 - [MRow.source ((s - 4 : Int) : Rat)].length = i from rfl, chR_at (by omega), List.getD_eq_getElem?_getD, List.getElem?_eq_getElem (by omega)]
      rfl
    have sm : ∀ i, (xs.getD i 0).natAbs ≤ 4 := fun i => by
      rw [List.getD_eq_getElem?_getD]
      cases h : xs[i]? with
      | none => decide
      | some t => exact hx t (List.mem_of_getElem? h)
    obtain ⟨M, hM⟩ : ∃ M, M = [MRow.source ((s - 4 : Int) : Rat)] ++ chR xs := ⟨_, rfl⟩
    have M0 : M[0]? = some (.source ((s - 4 : Int) : Rat)) := by rw [hM]; rfl
    rw [← hM] at L1 at1 ⊢
    have st' : st = 0 ∨ st = 1 := by omega
    rcases st' with rfl | rfl
    · obtain ⟨t, ht⟩ : ∃ t, t = xs.getD (n - 1) 0 := ⟨_, rfl⟩
      have atn := at1 (n - 1) (by omega)
      rw [show n - 1 + 1 = n by omega, ← ht] at atn
      obtain ⟨nl, nr⟩ := at_getD atn
      have ix : dIx (encM M) (.int n) = some (encR (.disc (t : Rat) (n - 1 + 2) 0)) := by
        have := ixM (m := M) (i := n) nl
        rwa [nr] at this
      have i1 : dIx (encR (.disc (t : Rat) (n - 1 + 2) 0)) (.int 1) = some (enc (t : Rat)) := ix_tN (n := 1) rfl
      have sx : dSetIx (encM M) (.int n) (encR (.disc (t : Rat) 0 0)) = some (encM (M.set n (.disc (t : Rat) 0 0))) := by
        show dSetIx (.lst (M.map encR)) _ _ = _
        rw [setix_lN (by rw [List.length_map]; exact nl), ← List.map_set]
        rfl
      have dE : D.tup [.str "disc", enc (t : Rat), .int 0, .int 0] = encR (.disc (t : Rat) 0 0) := rfl
      have z : dEq (.int 0) (.int 1) = some (.bl false) := rfl
      refine ⟨M.set n (.disc (t : Rat) 0 0), c1, fun J => ?_, C1.mono (by omega), ⟨by rw [List.length_set]; exact L1, by rw [List.getElem?_set_ne (by omega)]; exact M0, fun i hi => ⟨_, by rw [List.getElem?_set_ne (by omega)]; exact at1 i (by omega)⟩, ⟨t, by rw [List.getElem?_set_self nl]; rfl⟩, fun h => by omega, fun i r hi hr => ?_⟩⟩
      · simp only [EW, z, ix, i1, fl2E, dE, sx]
      · left
        by_cases e : n = i
        · subst e
          rw [List.getElem?_set_self nl] at hr
          exact ⟨t, 0, by rw [ht]; have := sm (n - 1); omega, (Option.some.inj hr).symm, by omega⟩
        · rw [List.getElem?_set_ne e] at hr
          have il : i < 1 + n := by rw [← L1]; exact (List.getElem?_eq_some_iff.mp hr).1
          have := at1 (i - 1) (by omega)
          rw [show i - 1 + 1 = i by omega, hr] at this
          exact ⟨_, _, by have := sm (i - 1); omega, Option.some.inj this, by omega⟩
    · obtain ⟨g, c2, e, g0, g6, C2⟩ := take_eq (n := 6) C1 (by omega) (by omega) (by omega)
      have gE := gearE (1 + g) 0 0
      have gE : D.tup [.str "gear", .tup [.int (1 + g), .int 1], .tup [.int 0, .int 1], .int 0] = _ := gE
      have ap := appE (m := M) (by omega) (.gear ((1 + g : Int) : Rat) ((0 : Int) : Rat) 0)
      have z : dEq (.int 1) (.int 1) = some (.bl true) := rfl
      have old : ∀ i, i < 1 + n → (M ++ [.gear ((1 + g : Int) : Rat) ((0 : Int) : Rat) 0])[i]? = M[i]? := fun i hi => List.getElem?_append_left (by omega)
      have new : (M ++ [.gear ((1 + g : Int) : Rat) ((0 : Int) : Rat) 0])[n + 1]? = some (.gear ((1 + g : Int) : Rat) ((0 : Int) : Rat) 0) := by
        rw [List.getElem?_append_right (by omega), show n + 1 - M.length = 0 by omega]
        rfl
      have atn := at1 (n - 1) (by omega)
      rw [show n - 1 + 1 = n by omega, show n - 1 + 2 = n + 1 by omega] at atn
      refine ⟨M ++ [.gear ((1 + g : Int) : Rat) ((0 : Int) : Rat) 0], c2, fun J => ?_, C2.mono (by omega), ⟨by rw [List.length_append, L1]; rfl, by rw [old 0 (by omega)]; exact M0, fun i hi => ⟨_, by rw [old (i + 1) (by omega)]; exact at1 i (by omega)⟩, ⟨_, by rw [old n (by omega)]; exact atn⟩, fun _ => ⟨1 + g, by omega, new⟩, fun i r hi hr => ?_⟩⟩
      · simp only [EW, z, e, it, gE, ap]
      · by_cases e : i = n + 1
        · subst e
          rw [new] at hr
          exact .inr ⟨1 + g, 0, 0, by omega, by decide, (Option.some.inj hr).symm, by omega⟩
        · have il : i < 1 + n := by
            have := (List.getElem?_eq_some_iff.mp hr).1
            rw [List.length_append, L1] at this
            have : i < 1 + n + 1 := this
            omega
          rw [old i il] at hr
          have := at1 (i - 1) (by omega)
          rw [show i - 1 + 1 = i by omega, hr] at this
          exact .inl ⟨_, _, by have := sm (i - 1); omega, Option.some.inj this, by show i - 1 + 2 < 1 + n + 1; omega⟩
  obtain ⟨R, c2, emid, C2, P⟩ := mid
  have lR := P.len
  have R0 := P.src
  -- the idle ones
  obtain ⟨q, hq⟩ : ∃ q : Nat, min idl (5 - (n : Int)) = q := ⟨(min idl (5 - (n : Int))).toNat, by omega⟩
  have r2 : gRng [.int (q : Int)] = some (rngD 0 q) := rngN q (by omega)
  obtain ⟨_, E2, l, x5, c3, rfl, ll, hl, C3⟩ := forL_rng (T := .nm 5) (G := I) q (fun j σ => ∃ (l : List (Int × Nat)) (x5 c : D), σ = [c, .int n, .int st, .int idl, encM (R ++ idleR l), x5] ∧ l.length = j ∧ (∀ p ∈ l, p.1.natAbs ≤ 4 ∧ p.2 < R.length + j) ∧ Bag (k + 10 + 2 * j) c) [c2, .int n, .int st, .int idl, encM R, x5] ⟨[], _, _, by rw [show idleR [] = [] from rfl, List.append_nil], rfl, (fun t h => by cases h), C2.mono (by omega)⟩ (by
    rintro j σ hj ⟨l, x5, c, rfl, ll, hl, C⟩
    obtain ⟨x, c', e, x0, x9, C'⟩ := take_eq (n := 9) C (by omega) (by omega) (by omega)
    have lM : (R ++ idleR l).length = R.length + j := by rw [List.length_append]; unfold idleR; rw [List.length_map, ll]
    obtain ⟨w, c'', e', w0, w1, C''⟩ := take_eq (n := ((R.length + j : Nat) : Int)) C' (by omega) (by omega) (by omega)
    obtain ⟨w, rfl⟩ : ∃ i : Nat, w = i := ⟨w.toNat, by omega⟩
    have dE := discE (x - 4) w
    have ap := appE (m := R ++ idleR l) (by omega) (.disc ((x - 4 : Int) : Rat) w 0)
    have ee : R ++ idleR l ++ [.disc ((x - 4 : Int) : Rat) w 0] = R ++ idleR (l ++ [(x - 4, w)]) := by unfold idleR; rw [List.map_append, List.append_assoc]; rfl
    rw [ee] at ap
    have lm := lenM (R ++ idleR l)
    rw [lM] at lm
    obtain ⟨M, hM⟩ : ∃ M, M = R ++ idleR l := ⟨_, rfl⟩
    obtain ⟨M', hM'⟩ : ∃ M, M = R ++ idleR (l ++ [(x - 4, w)]) := ⟨_, rfl⟩
    rw [← hM, ← hM'] at ap
    rw [← hM] at lm
    refine ⟨[c, .int n, .int st, .int idl, encM M, .int j], [c'', .int n, .int st, .int idl, encM M', .int j], by rw [hM]; rfl, ?_, l ++ [(x - 4, w)], _, _, by rw [hM'], by simp [ll], fun t ht => ?_, C''.mono (by omega)⟩
    · rw [← hI]
      simp only [EW, e, lm, e', dE, it, ap]
    · rcases List.mem_append.mp ht with h | h
      · have := hl t h; omega
      · rw [List.mem_singleton.mp h]; exact ⟨by show (x - 4).natAbs ≤ 4; omega, by show w < _; omega⟩)
  have lI : (idleR l).length = q := by unfold idleR; rw [List.length_map, ll]
  obtain ⟨M, hM⟩ : ∃ M, M = R ++ idleR l := ⟨_, rfl⟩
  rw [← hM] at E2
  have lM : M.length = R.length + q := by rw [hM, List.length_append, lI]
  have lo : ∀ i, i < R.length → M[i]? = R[i]? := fun i hi => by rw [hM]; exact List.getElem?_append_left hi
  have f : Flat0 M := by
    refine flat0_of (t := s - 4) (by omega) (by rw [lo 0 (by omega)]; exact R0) fun i r hi hr => ?_
    by_cases h : i < R.length
    · rw [lo i h] at hr
      rcases P.all i r hi hr with ⟨t, w, h1, h2, h3⟩ | h'
      · exact .inl ⟨t, w, h1, h2, by omega⟩
      · exact .inr (.inl h')
    · rw [hM, List.getElem?_append_right (by omega)] at hr
      unfold idleR at hr
      rw [List.getElem?_map] at hr
      cases e : l[i - R.length]? with
      | none => rw [e] at hr; cases hr
      | some p =>
        rw [e] at hr
        have := hl p (List.mem_of_getElem? e)
        exact .inl ⟨p.1, p.2, by omega, (Option.some.inj hr).symm, by omega⟩
  have hd : (discs M).length ≤ 5 := by
    have lk := lk_le f.mach
    by_cases h : st = 1
    · obtain ⟨g, _, hg⟩ := P.ger h
      have := discs_le f.mach (i := n + 1) (by rw [lo _ (by omega)]; exact hg)
      omega
    · omega
  obtain ⟨tl_, Rn⟩ := P.lst
  have g := chain_good f (n := n) n1 (by omega) hd (fun i hi => by
    obtain ⟨t, ht⟩ := P.chn i hi
    exact ⟨t, by rw [lo _ (by omega)]; exact ht⟩) (t := tl_) (still := decide (st = 1)) (by rw [lo _ (by omega)]; exact Rn) (fun h => by
    obtain ⟨g, hg, h1⟩   := P.ger (of_decide_eq_true h)
    exact ⟨g, hg, by rw [lo _ (by have := of_decide_eq_true h; omega)]; exact h1⟩)
  refine ⟨M, 1, _, c3, ?_, g, C3.mono (by omega)⟩
  have du : (n : Int) - st = ((n - if decide (st = 1) = true then 1 else 0 : Nat) : Int) := by
    by_cases h : st = 1
    · rw [if_pos (decide_eq_true h)]; omega
    · rw [if_neg (fun e => h (of_decide_eq_true e))]; omega
  obtain ⟨M1, hM1⟩ : ∃ M1, M1 = [MRow.source ((s - 4 : Int) : Rat)] ++ chR xs := ⟨_, rfl⟩
  rw [← hM1] at E1 emid
  generalize hmid : (sIf (tOf (eBin dEq (eVar 2) (eC (.int 1)))) _ _) = MID at emid ⊢
  simp only [EW, e1, hn, e2, e3, e4, sE, sE1, r1, E1]
  rw [← a_seq, emid]
  simp only [EW, hq, r2, E2, du]
  rfl
theorem un_T {is : List Nat} {g : List D → ER D} {σ σ1 σ2 ds : List D} (h : g σ = .ok (.tup ds) σ1) (h2 : setMany is ds σ1 = some σ2) : sUnpT is g σ = .nxt σ2 := by
  unfold sUnpT sOf
  rw [h]
  dsimp only
  rw [h2]
theorem law_holds : ∀ ns : List Int, ns.length ≤ 63 → (∀ z ∈ ns, Builtin.Int.intBits z ≤ 1048576) → ∃ outs, d_law [.fzl (ns.map D.int)] = .ret (.bl true) outs := by
  intro ns hn _
  obtain ⟨q, hq, er⟩ := cells_rng 4 ns hn (by omega) (by omega)
  unfold d_law
  generalize hH : (sSeq (sIf (tOf (eBin dNe (eCall d_fewest [] _) _)) _ _) _) = H
  generalize hG : (sSeq (sSet 2 (eCall d__law_bag [] _)) _) = G
  obtain ⟨σ', e, x1, x2, x3, x4, x5, x6, x7, rfl⟩ := forL_rng (T := .nm 1) (G := G) q (fun _ σ => ∃ x1 x2 x3 x4 x5 x6 x7, σ = [.fzl (ns.map D.int), x1, x2, x3, x4, x5, x6, x7]) [.fzl (ns.map D.int), .non, .non, .non, .non, .non, .non, .non] ⟨_, _, _, _, _, _, _, rfl⟩ (by
    rintro i σ hi ⟨x1, x2, x3, x4, x5, x6, x7, rfl⟩
    obtain ⟨b0, e0, B0⟩ := bag_eq ns i (by omega)
    obtain ⟨m1, s1, d1, b1, e1, g1, B1⟩ := chain_eq B0 (by omega)
    obtain ⟨m2, s2, d2, b2, e2, g2, B2⟩ := growing_eq B1 (by omega)
    obtain ⟨m3, s3, d3, b3, e3, g3, B3⟩ := circling_eq B2 (by omega)
    have step : ∀ (m : List MRow) (sh due : Nat) (b : D) (k : Int) (x3 x4 x5 x6 x7 : D), Good m sh due → Bag k b → k < 2 ^ 17 → ∃ b' y6 y7, H [.fzl (ns.map D.int), .int i, b, encM m, .int sh, .int due, x6, x7] = .nxt [.fzl (ns.map D.int), .int i, b', encM m, .int sh, .int due, y6, y7] ∧ Bag (k + 10) b' := by
      intro m sh due b k x3 x4 x5 x6 x7 g B hk
      have t1 := g.told
      obtain ⟨p, b', er, hp, B'⟩ := renamed_eq g.hm B (by omega) (by have := g.hl; omega) g.hs
      have t2 := (g.ren hp).told
      have lr : fListOf [encM (renM m p)] = some (encM (renM m p)) := rfl
      have un : sUnpT [6, 7] (eCall d__law_renamed [2] (aSlot 2 (aCons (eVar 3) (aCons (eVar 4) aNil)))) [.fzl (ns.map D.int), .int i, b, encM m, .int sh, .int due, x6, x7] = .nxt [.fzl (ns.map D.int), .int i, b', encM m, .int sh, .int due, encM (renM m p), .int (p.getD sh 0 : Nat)] := un_T (σ1 := [.fzl (ns.map D.int), .int i, b', encM m, .int sh, .int due, x6, x7]) (ds := [encM (renM m p), .int (p.getD sh 0 : Nat)]) (by simp only [EZ, er]) rfl
      refine ⟨b', encM (renM m p), .int (p.getD sh 0 : Nat), ?_, B'.mono (by have := g.hl; omega)⟩
      rw [← hH]
      simp only [EZ, listM, flatLM, t1, ne_ii, un, lr, t2]
    obtain ⟨c1, y6, y7, f1, C1⟩ := step m1 s1 d1 b3 _ .non .non .non x6 x7 g1 B3 (by omega)
    obtain ⟨c2, z6, z7, f2, C2⟩ := step m2 s2 d2 c1 _ .non .non .non y6 y7 g2 C1 (by omega)
    obtain ⟨c3, w6, w7, f3, C3⟩ := step m3 s3 d3 c2 _ .non .non .non z6 z7 g3 C2 (by omega)
    refine ⟨[.fzl (ns.map D.int), .int i, x2, x3, x4, x5, x6, x7], [.fzl (ns.map D.int), .int i, c3, encM m3, .int s3, .int d3, w6, w7], rfl, ?_, _, _, _, _, _, _, _, rfl⟩
    have l1 := forL_n (T := .tp [3, 4, 5]) (G := H) (d := .tup [encM m1, .int s1, .int d1]) (ds := [.tup [encM m2, .int s2, .int d2], .tup [encM m3, .int s3, .int d3]]) (σ := [.fzl (ns.map D.int), .int i, b3, x3, x4, x5, x6, x7]) rfl f1
    have l2 := forL_n (T := .tp [3, 4, 5]) (G := H) (d := .tup [encM m2, .int s2, .int d2]) (ds := [.tup [encM m3, .int s3, .int d3]]) (σ := [.fzl (ns.map D.int), .int i, c1, encM m1, .int s1, .int d1, y6, y7]) rfl f2
    have l3 := forL_n (T := .tp [3, 4, 5]) (G := H) (d := .tup [encM m3, .int s3, .int d3]) (ds := []) (σ := [.fzl (ns.map D.int), .int i, c2, encM m2, .int s2, .int d2, z6, z7]) rfl f3
    have l4 := (l1.trans l2).trans l3
    rw [← hG]
    simp only [EZ, e0, e1, e2, e3, l4]
    rfl)
  exact ⟨_, by simp only [EZ, er, e]; rfl⟩
end Law


namespace Law
open PySem PySem.Spec PySem.SeqAt PyProof.Rows L2 Ow
variable {P : Program} {w : World} {K : PySem.W.Frag} {mg : Str → Option Value} {base : Heap}
theorem sc__law_bag : FnScope ["_law_script", "_law_at", "_law_cell"] ["_law_script", "_law_at"] (defScope (top 37)) := ⟨rfl, rfl, rfl, by decide +kernel, rfl, by decide +kernel, by decide +kernel⟩
theorem c__law_bag (c : Faz fa fn cs K mg) : Fnc P w K mg base "_law_bag" 1 2 [] true d__law_bag :=
  fnc_of c.toFax 0 0 (Γ' := ctxIo 3 []) rfl rfl sc__law_bag rfl rfl (by decide) (by decide) (by decide) (fun _ _ _ _ _ _ us hl => match us, hl with | [_, _], _ => rfl) fun cdv A outer s H E hr =>
  (bj_cons (sj_weak (Γ2 := [some (.bor [.prm]), some (.bor [.prm]), some (.own)]) (sj_set (i := 2) sc__law_bag.nd rfl (ej_add (ej_mul ej_int (ej_var (i := 1) (k := .bor [.prm]) rfl (pv 1))) ej_int)))
(bj_cons (sj_if (Γ' := [some (.bor [.prm]), some (.bor [.prm]), some (.own)]) (tj_lt (ej_var (i := 1) (k := .bor [.prm]) rfl (pv 1)) (ej_len (c.free 32 rfl) (aj_cons (ej_var (i := 0) (k := .bor [.prm]) rfl (pv 0)) aj_nil)))
(bj_weak (bj_one (sj_weak (Γ2 := [some (.bor [.prm]), some (.bor [.prm]), some (.own)]) (sj_set (i := 2) sc__law_bag.nd rfl (ej_flat (ej_ix (ej_var (i := 0) (k := .bor [.prm]) rfl (pv 0)) (ej_var (i := 1) (k := .bor [.prm]) rfl (pv 1))))))))
(bj_weak bj_nil))
(bj_one (sj_ret (ej_lst (aj_cons (ej_mul (ej_abs (c.free 33 rfl) (aj_cons (ej_var (i := 2) (k := .own) rfl (pv 2)) aj_nil)) (ej_intc (c.free 34 rfl) (aj_cons (ej_ge (ej_abs (c.free 33 rfl) (aj_cons (ej_var (i := 2) (k := .own) rfl (pv 2)) aj_nil)) (ej_pow ej_int ej_int)) aj_nil))) (aj_cons (ej_add (ej_mod (ej_var (i := 2) (k := .own) rfl (pv 2)) ej_int) (ej_mul ej_int (ej_var (i := 1) (k := .bor [.prm]) rfl (pv 1)))) (aj_cons ej_int aj_nil))))))))
theorem sc__law_take : FnScope ["_law_bag_here", "_law_many", "_law_digit", "_law_primes", "_law_step", "_law_base", "_law_here"] ["_law_bag_here", "_law_many"] (defScope (top 38)) := ⟨rfl, rfl, rfl, by decide +kernel, rfl, by decide +kernel, by decide +kernel⟩
theorem c__law_take (c : Faz fa fn cs K mg) : Fnc P w K mg base "_law_take" 1 2 [0] true d__law_take :=
  fnc_of c.toFax 1 1 (Γ' := ctxIo 7 [0]) rfl rfl sc__law_take rfl rfl (by decide) (by decide) (by decide) (fun _ _ _ _ _ _ us hl => match us, hl with | [_, _], _ => rfl) fun cdv A outer s H E hr =>
  (bj_cons (sj_if (Γ' := [some (.own), some (.bor [.prm]), none, none, none, none, none]) (tj_gt (ej_ix (ej_var (i := 0) (k := .own) rfl (pv 0)) ej_int) ej_int)
(bj_cons (sj_weak (Γ2 := [some (.own), some (.bor [.prm]), some (.own), none, none, none, none]) (sj_set (i := 2) sc__law_take.nd rfl (ej_mod (ej_ix (ej_var (i := 0) (k := .own) rfl (pv 0)) ej_int) (ej_var (i := 1) (k := .bor [.prm]) rfl (pv 1)))))
(bj_cons (sj_setix (r := 0) (pv 0) (ej_div (ej_ix (ej_var (i := 0) (k := .own) rfl (pv 0)) ej_int) (ej_var (i := 1) (k := .bor [.prm]) rfl (pv 1))) ej_int)
(bj_one (sj_ret (ej_flat (ej_var (i := 2) (k := .own) rfl (pv 2)))))))
(bj_weak bj_nil))
(bj_cons (sj_weak (Γ2 := [some (.own), some (.bor [.prm]), none, some (.own), none, none, none]) (sj_set (i := 3) sc__law_take.nd rfl (ej_tup (aj_cons ej_int (aj_cons ej_int (aj_cons ej_int (aj_cons ej_int (aj_cons ej_int (aj_cons ej_int (aj_cons ej_int (aj_cons ej_int aj_nil)))))))))))
(bj_cons (sj_setix (r := 0) (pv 0) (ej_add (ej_ix (ej_var (i := 0) (k := .own) rfl (pv 0)) ej_int) ej_int) ej_int)
(bj_cons (sj_weak (Γ2 := [some (.own), some (.bor [.prm]), none, some (.own), some (.own), none, none]) (sj_set (i := 4) sc__law_take.nd rfl (ej_flat (ej_ix (ej_var (i := 0) (k := .own) rfl (pv 0)) ej_int))))
(bj_cons (sj_weak (Γ2 := [some (.own), some (.bor [.prm]), none, some (.own), some (.own), some (.own), none]) (sj_set (i := 5) sc__law_take.nd rfl (ej_add (ej_mul (ej_add (ej_ix (ej_var (i := 0) (k := .own) rfl (pv 0)) ej_int) ej_int) (ej_add (ej_mul ej_int (ej_var (i := 4) (k := .own) rfl (pv 4))) ej_int)) (ej_mul (ej_mul ej_int (ej_var (i := 4) (k := .own) rfl (pv 4))) (ej_var (i := 4) (k := .own) rfl (pv 4))))))
(bj_cons (sj_weak (Γ2 := [some (.own), some (.bor [.prm]), none, some (.own), some (.own), some (.own), some (.own)]) (sj_set (i := 6) sc__law_take.nd rfl (ej_mod (ej_pow (ej_var (i := 5) (k := .own) rfl (pv 5)) ej_int) (ej_ix (ej_var (i := 3) (k := .own) rfl (pv 3)) (ej_mod (ej_var (i := 4) (k := .own) rfl (pv 4)) ej_int)))))
(bj_one (sj_ret (ej_mod (ej_div (ej_mod (ej_mul (ej_var (i := 6) (k := .own) rfl (pv 6)) (ej_add (ej_div (ej_var (i := 6) (k := .own) rfl (pv 6)) ej_int) ej_int)) (ej_ix (ej_var (i := 3) (k := .own) rfl (pv 3)) (ej_mod (ej_add (ej_var (i := 4) (k := .own) rfl (pv 4)) ej_int) ej_int))) ej_int) (ej_var (i := 1) (k := .bor [.prm]) rfl (pv 1)))))))))))
theorem sc__law_chain : FnScope ["_law_bag_here", "_law_many", "_law_still", "_law_idle", "_law_rows", "_law_k"] ["_law_bag_here"] (defScope (top 41)) := ⟨rfl, rfl, rfl, by decide +kernel, rfl, by decide +kernel, by decide +kernel⟩
theorem c__law_chain (c : Faz fa fn cs K mg) : Fnc P w K mg base "_law_chain" 2 1 [0] true d__law_chain :=
  fnc_of c.toFax 2 2 (Γ' := ctxIo 6 [0]) rfl rfl sc__law_chain rfl rfl (by decide) (by decide) (by decide) (fun _ _ _ _ _ _ us hl => match us, hl with | [_], _ => rfl) fun cdv A outer s H E hr =>
  (bj_cons (sj_weak (Γ2 := [some (.own), some (.own), none, none, none, none]) (sj_set (i := 1) sc__law_chain.nd rfl (ej_add ej_int (ej_callC (rs := [0]) (c__law_take c) rfl (hr.mono (by decide)) takes_c (aj_slot (r := 0) rfl (pv 0) (aj_cons ej_int aj_nil)) ⟨by decide, by decide, rfl, by decide, by decide, by decide, by decide, by decide, by decide, by decide⟩))))
(bj_cons (sj_weak (Γ2 := [some (.own), some (.own), some (.own), none, none, none]) (sj_set (i := 2) sc__law_chain.nd rfl (ej_callC (rs := [0]) (c__law_take c) rfl (hr.mono (by decide)) takes_c (aj_slot (r := 0) rfl (pv 0) (aj_cons ej_int aj_nil)) ⟨by decide, by decide, rfl, by decide, by decide, by decide, by decide, by decide, by decide, by decide⟩)))
(bj_cons (sj_weak (Γ2 := [some (.own), some (.own), some (.own), some (.own), none, none]) (sj_set (i := 3) sc__law_chain.nd rfl (ej_callC (rs := [0]) (c__law_take c) rfl (hr.mono (by decide)) takes_c (aj_slot (r := 0) rfl (pv 0) (aj_cons ej_int aj_nil)) ⟨by decide, by decide, rfl, by decide, by decide, by decide, by decide, by decide, by decide, by decide⟩)))
(bj_cons (sj_weak (Γ2 := [some (.own), some (.own), some (.own), some (.own), some (.own), none]) (sj_set (i := 4) sc__law_chain.nd rfl (ej_lst (aj_cons (ej_tup (aj_cons ej_str (aj_cons (ej_tup (aj_cons (ej_sub (ej_callC (rs := [0]) (c__law_take c) rfl (hr.mono (by decide)) takes_c (aj_slot (r := 0) rfl (pv 0) (aj_cons ej_int aj_nil)) ⟨by decide, by decide, rfl, by decide, by decide, by decide, by decide, by decide, by decide, by decide⟩) ej_int) (aj_cons ej_int aj_nil))) aj_nil))) aj_nil))))
(bj_cons (sj_pre (Γ1 := [some (.own), some (.own), some (.own), some (.own), some (.own), none]) (sj_for (T := .nm 5) (Γ' := [some (.own), some (.own), some (.own), some (.own), some (.own), none]) passes_c rfl (ij_range1 (c.free 35 rfl) (aj_cons (ej_flat (ej_var (i := 1) (k := .own) rfl (pv 1))) aj_nil)) (pg_name sc__law_chain.nd rfl (.inl rfl))
(bj_weak (bj_one (sj_expr (ej_append (r := 4) (pv 4) (aj_cons (ej_tup (aj_cons ej_str (aj_cons (ej_tup (aj_cons (ej_sub (ej_callC (rs := [0]) (c__law_take c) rfl (hr.mono (by decide)) takes_c (aj_slot (r := 0) rfl (pv 0) (aj_cons ej_int aj_nil)) ⟨by decide, by decide, rfl, by decide, by decide, by decide, by decide, by decide, by decide, by decide⟩) ej_int) (aj_cons ej_int aj_nil))) (aj_cons (ej_add (ej_var (i := 5) (k := .bor []) rfl (pv 5)) ej_int) (aj_cons ej_int aj_nil))))) aj_nil)))))))
(bj_cons (sj_if (Γ' := [some (.own), some (.own), some (.own), some (.own), some (.own), none]) (tj_eq (hu64 hr) (ej_var (i := 2) (k := .own) rfl (pv 2)) ej_int)
(bj_weak (bj_one (sj_expr (ej_append (r := 4) (pv 4) (aj_cons (ej_tup (aj_cons ej_str (aj_cons (ej_tup (aj_cons (ej_add ej_int (ej_callC (rs := [0]) (c__law_take c) rfl (hr.mono (by decide)) takes_c (aj_slot (r := 0) rfl (pv 0) (aj_cons ej_int aj_nil)) ⟨by decide, by decide, rfl, by decide, by decide, by decide, by decide, by decide, by decide, by decide⟩)) (aj_cons ej_int aj_nil))) (aj_cons (ej_tup (aj_cons ej_int (aj_cons ej_int aj_nil))) (aj_cons ej_int aj_nil))))) aj_nil)))))
(bj_weak (bj_one (sj_setix (r := 4) (pv 4) (ej_tup (aj_cons ej_str (aj_cons (ej_flat (ej_ix (ej_ix (ej_var (i := 4) (k := .own) rfl (pv 4)) (ej_var (i := 1) (k := .own) rfl (pv 1))) ej_int)) (aj_cons ej_int (aj_cons ej_int aj_nil))))) (ej_var (i := 1) (k := .own) rfl (pv 1))))))
(bj_cons (sj_pre (Γ1 := [some (.own), some (.own), some (.own), some (.own), some (.own), none]) (sj_for (T := .nm 5) (Γ' := [some (.own), some (.own), some (.own), some (.own), some (.own), none]) passes_c rfl (ij_range1 (c.free 35 rfl) (aj_cons (ej_min2 rfl (c.free 36 rfl) (aj_cons (ej_var (i := 3) (k := .own) rfl (pv 3)) (aj_cons (ej_sub ej_int (ej_var (i := 1) (k := .own) rfl (pv 1))) aj_nil))) aj_nil)) (pg_name sc__law_chain.nd rfl (.inl rfl))
(bj_weak (bj_one (sj_expr (ej_append (r := 4) (pv 4) (aj_cons (ej_tup (aj_cons ej_str (aj_cons (ej_tup (aj_cons (ej_sub (ej_callC (rs := [0]) (c__law_take c) rfl (hr.mono (by decide)) takes_c (aj_slot (r := 0) rfl (pv 0) (aj_cons ej_int aj_nil)) ⟨by decide, by decide, rfl, by decide, by decide, by decide, by decide, by decide, by decide, by decide⟩) ej_int) (aj_cons ej_int aj_nil))) (aj_cons (ej_callC (rs := [0]) (c__law_take c) rfl (hr.mono (by decide)) takes_c (aj_slot (r := 0) rfl (pv 0) (aj_cons (ej_len (c.free 32 rfl) (aj_cons (ej_var (i := 4) (k := .own) rfl (pv 4)) aj_nil)) aj_nil)) ⟨by decide, by decide, rfl, by decide, by decide, by decide, by decide, by decide, by decide, by decide⟩) (aj_cons ej_int aj_nil))))) aj_nil)))))))
(bj_one (sm_ret (em_tup (am_cons (em_var (i := 4) (Γ' := [some (.own), some (.own), some (.own), some (.own), none, none]) rfl (pv 4)) (am_cons (em_of ej_int) (am_cons (em_of (ej_sub (ej_var (i := 1) (k := .own) rfl (pv 1)) (ej_var (i := 2) (k := .own) rfl (pv 2)))) am_nil)))))))))))))
theorem sc__law_circling : FnScope ["_law_bag_here", "_law_one", "_law_other", "_law_rows"] ["_law_bag_here"] (defScope (top 43)) := ⟨rfl, rfl, rfl, by decide +kernel, rfl, by decide +kernel, by decide +kernel⟩
theorem c__law_circling (c : Faz fa fn cs K mg) : Fnc P w K mg base "_law_circling" 2 1 [0] true d__law_circling :=
  fnc_of c.toFax 3 3 (Γ' := ctxIo 4 [0]) rfl rfl sc__law_circling rfl rfl (by decide) (by decide) (by decide) (fun _ _ _ _ _ _ us hl => match us, hl with | [_], _ => rfl) fun cdv A outer s H E hr =>
  (bj_cons (sj_weak (Γ2 := [some (.own), some (.own), some (.own), none]) (sj_par (i := 1) (j := 2) rfl sc__law_circling.nd rfl rfl (aj_cons (ej_sub (ej_callC (rs := [0]) (c__law_take c) rfl (hr.mono (by decide)) takes_c (aj_slot (r := 0) rfl (pv 0) (aj_cons ej_int aj_nil)) ⟨by decide, by decide, rfl, by decide, by decide, by decide, by decide, by decide, by decide, by decide⟩) ej_int) (aj_cons (ej_sub (ej_callC (rs := [0]) (c__law_take c) rfl (hr.mono (by decide)) takes_c (aj_slot (r := 0) rfl (pv 0) (aj_cons ej_int aj_nil)) ⟨by decide, by decide, rfl, by decide, by decide, by decide, by decide, by decide, by decide, by decide⟩) ej_int) aj_nil))))
(bj_cons (sj_weak (Γ2 := [some (.own), some (.own), some (.own), some (.own)]) (sj_set (i := 3) sc__law_circling.nd rfl (ej_lst (aj_cons (ej_tup (aj_cons ej_str (aj_cons (ej_tup (aj_cons ej_int (aj_cons ej_int aj_nil))) aj_nil))) (aj_cons (ej_tup (aj_cons ej_str (aj_cons (ej_tup (aj_cons (ej_flat (ej_var (i := 1) (k := .own) rfl (pv 1))) (aj_cons ej_int aj_nil))) (aj_cons ej_int (aj_cons ej_int aj_nil))))) (aj_cons (ej_tup (aj_cons ej_str (aj_cons (ej_tup (aj_cons (ej_flat (ej_var (i := 2) (k := .own) rfl (pv 2))) (aj_cons ej_int aj_nil))) (aj_cons ej_int (aj_cons ej_int aj_nil))))) (aj_cons (ej_tup (aj_cons ej_str (aj_cons (ej_tup (aj_cons (ej_sub ej_int (ej_var (i := 1) (k := .own) rfl (pv 1))) (aj_cons ej_int aj_nil))) (aj_cons (ej_tup (aj_cons (ej_neg ej_int) (aj_cons ej_int aj_nil))) (aj_cons ej_int aj_nil))))) aj_nil)))))))
(bj_one (sm_ret (em_tup (am_cons (em_var (i := 3) (Γ' := [some (.own), some (.own), some (.own), none]) rfl (pv 3)) (am_cons (em_of (ej_add ej_int (ej_callC (rs := [0]) (c__law_take c) rfl (hr.mono (by decide)) takes_c (aj_slot (r := 0) rfl (pv 0) (aj_cons ej_int aj_nil)) ⟨by decide, by decide, rfl, by decide, by decide, by decide, by decide, by decide, by decide, by decide⟩))) (am_cons (em_of (ej_mul ej_int (ej_intc (c.free 34 rfl) (aj_cons (ej_or (ej_ne (hu64 hr) (ej_var (i := 1) (k := .own) rfl (pv 1)) ej_int) (ej_one (ej_ne (hu64 hr) (ej_var (i := 2) (k := .own) rfl (pv 2)) ej_int))) aj_nil)))) am_nil))))))))
theorem sc__law_growing : FnScope ["_law_bag_here", "_law_many", "_law_ratios", "_law_rows", "_law_found", "_law_k", "_law_start", "_law_shaft"] ["_law_bag_here"] (defScope (top 42)) := ⟨rfl, rfl, rfl, by decide +kernel, rfl, by decide +kernel, by decide +kernel⟩
theorem c__law_growing (c : Faz fa fn cs K mg) : Fnc P w K mg base "_law_growing" 2 1 [0] true d__law_growing :=
  fnc_of c.toFax 4 4 (Γ' := ctxIo 8 [0]) rfl rfl sc__law_growing rfl rfl (by decide) (by decide) (by decide) (fun _ _ _ _ _ _ us hl => match us, hl with | [_], _ => rfl) fun cdv A outer s H E hr =>
  (bj_cons (sj_weak (Γ2 := [some (.own), some (.own), none, none, none, none, none, none]) (sj_set (i := 1) sc__law_growing.nd rfl (ej_add ej_int (ej_callC (rs := [0]) (c__law_take c) rfl (hr.mono (by decide)) takes_c (aj_slot (r := 0) rfl (pv 0) (aj_cons ej_int aj_nil)) ⟨by decide, by decide, rfl, by decide, by decide, by decide, by decide, by decide, by decide, by decide⟩))))
(bj_cons (sj_weak (Γ2 := [some (.own), some (.own), some (.own), none, none, none, none, none]) (sj_set (i := 2) sc__law_growing.nd rfl (ej_lst (aj_cons (ej_sub (ej_callC (rs := [0]) (c__law_take c) rfl (hr.mono (by decide)) takes_c (aj_slot (r := 0) rfl (pv 0) (aj_cons ej_int aj_nil)) ⟨by decide, by decide, rfl, by decide, by decide, by decide, by decide, by decide, by decide, by decide⟩) ej_int) (aj_cons ej_int (aj_cons (ej_neg ej_int) aj_nil))))))
(bj_cons (sj_weak (Γ2 := [some (.own), some (.own), some (.own), some (.own), none, none, none, none]) (sj_set (i := 3) sc__law_growing.nd rfl (ej_lst (aj_cons (ej_tup (aj_cons ej_str (aj_cons (ej_tup (aj_cons (ej_sub (ej_callC (rs := [0]) (c__law_take c) rfl (hr.mono (by decide)) takes_c (aj_slot (r := 0) rfl (pv 0) (aj_cons ej_int aj_nil)) ⟨by decide, by decide, rfl, by decide, by decide, by decide, by decide, by decide, by decide, by decide⟩) ej_int) (aj_cons ej_int aj_nil))) aj_nil))) aj_nil))))
(bj_cons (sj_weak (Γ2 := [some (.own), some (.own), some (.own), some (.own), some (.own), none, none, none]) (sj_set (i := 4) sc__law_growing.nd rfl ej_int))
(bj_cons (sj_pre (Γ1 := [some (.own), some (.own), some (.own), some (.own), some (.own), none, none, none]) (sj_for (T := .nm 5) (Γ' := [some (.own), some (.own), some (.own), some (.own), some (.own), none, none, none]) passes_c rfl (ij_range1 (c.free 35 rfl) (aj_cons (ej_flat (ej_var (i := 1) (k := .own) rfl (pv 1))) aj_nil)) (pg_name sc__law_growing.nd rfl (.inl rfl))
(bj_weak (bj_cons (sj_weak (Γ2 := [some (.own), some (.own), some (.own), some (.own), some (.own), some (.bor []), some (.own), none]) (sj_set (i := 6) sc__law_growing.nd rfl (ej_sub (ej_callC (rs := [0]) (c__law_take c) rfl (hr.mono (by decide)) takes_c (aj_slot (r := 0) rfl (pv 0) (aj_cons ej_int aj_nil)) ⟨by decide, by decide, rfl, by decide, by decide, by decide, by decide, by decide, by decide, by decide⟩) ej_int)))
(bj_cons (sj_expr (ej_append (r := 3) (pv 3) (aj_cons (ej_tup (aj_cons ej_str (aj_cons (ej_tup (aj_cons (ej_flat (ej_var (i := 6) (k := .own) rfl (pv 6))) (aj_cons ej_int aj_nil))) (aj_cons (ej_add (ej_len (c.free 32 rfl) (aj_cons (ej_var (i := 3) (k := .own) rfl (pv 3)) aj_nil)) ej_int) (aj_cons ej_int aj_nil))))) aj_nil)))
(bj_cons (sj_expr (ej_append (r := 3) (pv 3) (aj_cons (ej_tup (aj_cons ej_str (aj_cons (ej_tup (aj_cons (ej_mul (ej_var (i := 6) (k := .own) rfl (pv 6)) (ej_ix (ej_var (i := 2) (k := .own) rfl (pv 2)) (ej_var (i := 5) (k := .bor []) rfl (pv 5)))) (aj_cons ej_int aj_nil))) (aj_cons (ej_tup (aj_cons (ej_flat (ej_ix (ej_var (i := 2) (k := .own) rfl (pv 2)) (ej_var (i := 5) (k := .bor []) rfl (pv 5)))) (aj_cons ej_int aj_nil))) (aj_cons (ej_sub (ej_len (c.free 32 rfl) (aj_cons (ej_var (i := 3) (k := .own) rfl (pv 3)) aj_nil)) ej_int) aj_nil))))) aj_nil)))
(bj_one (sj_weak (Γ2 := [some (.own), some (.own), some (.own), some (.own), some (.own), some (.bor []), some (.own), none]) (sj_set (i := 4) sc__law_growing.nd rfl (ej_add (ej_var (i := 4) (k := .own) rfl (pv 4)) (ej_intc (c.free 34 rfl) (aj_cons (ej_and (ej_ne (hu64 hr) (ej_var (i := 6) (k := .own) rfl (pv 6)) ej_int) (ej_one (ej_ne (hu64 hr) (ej_ix (ej_var (i := 2) (k := .own) rfl (pv 2)) (ej_var (i := 5) (k := .bor []) rfl (pv 5))) ej_int))) aj_nil))))))))))))
(bj_cons (sj_weak (Γ2 := [some (.own), some (.own), some (.own), some (.own), some (.own), none, none, some (.own)]) (sj_set (i := 7) sc__law_growing.nd rfl ej_int))
(bj_cons (sj_pre (Γ1 := [some (.own), some (.own), some (.own), some (.own), some (.own), none, none, some (.own)]) (sj_for (T := .nm 5) (Γ' := [some (.own), some (.own), some (.own), some (.own), some (.own), none, none, some (.own)]) passes_c rfl (ij_range2 (c.free 35 rfl) (aj_cons ej_int (aj_cons (ej_flat (ej_var (i := 1) (k := .own) rfl (pv 1))) aj_nil))) (pg_name sc__law_growing.nd rfl (.inl rfl))
(bj_weak (bj_cons (sj_expr (ej_append (r := 3) (pv 3) (aj_cons (ej_tup (aj_cons ej_str (aj_cons (ej_tup (aj_cons (ej_sub (ej_callC (rs := [0]) (c__law_take c) rfl (hr.mono (by decide)) takes_c (aj_slot (r := 0) rfl (pv 0) (aj_cons ej_int aj_nil)) ⟨by decide, by decide, rfl, by decide, by decide, by decide, by decide, by decide, by decide, by decide⟩) ej_int) (aj_cons ej_int aj_nil))) (aj_cons (ej_flat (ej_var (i := 7) (k := .own) rfl (pv 7))) (aj_cons (ej_add (ej_mul ej_int (ej_var (i := 5) (k := .bor []) rfl (pv 5))) ej_int) aj_nil))))) aj_nil)))
(bj_one (sj_weak (Γ2 := [some (.own), some (.own), some (.own), some (.own), some (.own), some (.bor []), none, some (.own)]) (sj_set (i := 7) sc__law_growing.nd rfl (ej_sub (ej_len (c.free 32 rfl) (aj_cons (ej_var (i := 3) (k := .own) rfl (pv 3)) aj_nil)) ej_int))))))))
(bj_one (sm_ret (em_tup (am_cons (em_var (i := 3) (Γ' := [some (.own), some (.own), some (.own), none, some (.own), none, none, some (.own)]) rfl (pv 3)) (am_cons (em_of (ej_flat (ej_var (i := 7) (k := .own) rfl (pv 7)))) (am_cons (em_of (ej_flat (ej_var (i := 4) (k := .own) rfl (pv 4)))) am_nil)))))))))))))
theorem sc__law_turned : FnScope ["_law_bag_here", "_law_many", "_law_left", "_law_found", "_law_step"] ["_law_bag_here", "_law_many"] (defScope (top 40)) := ⟨rfl, rfl, rfl, by decide +kernel, rfl, by decide +kernel, by decide +kernel⟩
theorem c__law_turned (c : Faz fa fn cs K mg) : Fnc P w K mg base "_law_turned" 2 2 [0] true d__law_turned :=
  fnc_of c.toFax 5 5 (Γ' := ctxIo 5 [0]) rfl rfl sc__law_turned rfl rfl (by decide) (by decide) (by decide) (fun _ _ _ _ _ _ us hl => match us, hl with | [_, _], _ => rfl) fun cdv A outer s H E hr =>
  (bj_cons (sj_weak (Γ2 := [some (.own), some (.bor [.prm]), some (.own), none, none]) (sj_set (i := 2) sc__law_turned.nd rfl (ej_listRng1 rfl (c.free 37 rfl) (c.free 35 rfl) (ej_var (i := 1) (k := .bor [.prm]) rfl (pv 1)))))
(bj_cons (sj_weak (Γ2 := [some (.own), some (.bor [.prm]), some (.own), some (.own), none]) (sj_set (i := 3) sc__law_turned.nd rfl (ej_lst aj_nil)))
(bj_cons (sj_pre (Γ1 := [some (.own), some (.bor [.prm]), some (.own), some (.own), none]) (sj_for (T := .nm 4) (Γ' := [some (.own), some (.bor [.prm]), some (.own), some (.own), none]) passes_c rfl (ij_range1 (c.free 35 rfl) (aj_cons (ej_flat (ej_var (i := 1) (k := .bor [.prm]) rfl (pv 1))) aj_nil)) (pg_name sc__law_turned.nd rfl (.inl rfl))
(bj_weak (bj_one (sj_expr (ej_append (r := 3) (pv 3) (aj_cons (ej_popAt (r := 2) (pv 2) (aj_cons (ej_callC (rs := [0]) (c__law_take c) rfl (hr.mono (by decide)) takes_c (aj_slot (r := 0) rfl (pv 0) (aj_cons (ej_len (c.free 32 rfl) (aj_cons (ej_var (i := 2) (k := .own) rfl (pv 2)) aj_nil)) aj_nil)) ⟨by decide, by decide, rfl, by decide, by decide, by decide, by decide, by decide, by decide, by decide⟩) aj_nil)) aj_nil)))))))
(bj_one (sj_retV (i := 3) (pv 3) rfl)))))
theorem sc__law_renamed : FnScope ["_law_bag_here", "_law_machine", "_law_shaft", "_law_names", "_law_found", "_law_k", "_law_row"] ["_law_bag_here", "_law_machine", "_law_shaft"] (defScope (top 44)) := ⟨rfl, rfl, rfl, by decide +kernel, rfl, by decide +kernel, by decide +kernel⟩
theorem c__law_renamed (c : Faz fa fn cs K mg) : Fnc P w K mg base "_law_renamed" 3 3 [0] true d__law_renamed :=
  fnc_of c.toFax 6 6 (Γ' := ctxIo 7 [0]) rfl rfl sc__law_renamed rfl rfl (by decide) (by decide) (by decide) (fun _ _ _ _ _ _ us hl => match us, hl with | [_, _, _], _ => rfl) fun cdv A outer s H E hr =>
  (bj_cons (sj_weak (Γ2 := [some (.own), some (.bor [.prm]), some (.bor [.prm]), some (.own), none, none, none]) (sj_set (i := 3) sc__law_renamed.nd rfl (ej_callC (rs := [0]) (c__law_turned c) rfl (hr.mono (by decide)) takes_c (aj_slot (r := 0) rfl (pv 0) (aj_cons (ej_len (c.free 32 rfl) (aj_cons (ej_var (i := 1) (k := .bor [.prm]) rfl (pv 1)) aj_nil)) aj_nil)) ⟨by decide, by decide, rfl, by decide, by decide, by decide, by decide, by decide, by decide, by decide⟩)))
(bj_cons (sj_weak (Γ2 := [some (.own), some (.bor [.prm]), some (.bor [.prm]), some (.own), some (.own), none, none]) (sj_set (i := 4) sc__law_renamed.nd rfl (ej_rep (ej_lst (aj_cons ej_non aj_nil)) (ej_len (c.free 32 rfl) (aj_cons (ej_var (i := 1) (k := .bor [.prm]) rfl (pv 1)) aj_nil)))))
(bj_cons (sj_pre (Γ1 := [some (.own), some (.bor [.prm]), some (.bor [.prm]), some (.own), some (.own), none, none]) (sj_for (T := .tp [5, 6]) (Γ' := [some (.own), some (.bor [.prm]), some (.bor [.prm]), some (.own), some (.own), none, none]) passes_c rfl (ij_enum (c.free 38 rfl) (aj_cons (ej_var (i := 1) (k := .bor [.prm]) rfl (pv 1)) aj_nil)) (pg_tup rfl (pgs_cons (pg_name sc__law_renamed.nd rfl (.inl rfl)) (pgs_cons (pg_name sc__law_renamed.nd rfl (.inl rfl)) pgs_nil)))
(bj_weak (bj_cons (sj_if (Γ' := [some (.own), some (.bor [.prm]), some (.bor [.prm]), some (.own), some (.own), some (.bor [.prm]), some (.bor [.prm, .slt 6])]) (tj_eq (hu64 hr) (ej_ix (ej_var (i := 6) (k := .bor [.prm]) rfl (pv 6)) ej_int) ej_str)
(bj_weak (bj_one (sj_weak (Γ2 := [some (.own), some (.bor [.prm]), some (.bor [.prm]), some (.own), some (.own), some (.bor [.prm]), some (.own)]) (sj_set (i := 6) sc__law_renamed.nd rfl (ej_flat (ej_catT (ej_slT (ej_var (i := 6) (k := .bor [.prm]) rfl (pv 6)) oj_none (oj_some ej_int)) (ej_tup (aj_cons (ej_flat (ej_ix (ej_var (i := 3) (k := .own) rfl (pv 3)) (ej_ix (ej_var (i := 6) (k := .bor [.prm]) rfl (pv 6)) ej_int))) aj_nil))))))))
(bj_weak bj_nil))
(bj_cons (sj_if (Γ' := [some (.own), some (.bor [.prm]), some (.bor [.prm]), some (.own), some (.own), some (.bor [.prm]), some (.bor [.prm, .slt 6])]) (tj_cmpG op_in_seq dInT_ok (ej_ix (ej_var (i := 6) (k := .bor [.prm, .slt 6]) rfl (pv 6)) ej_int) (ej_tup (aj_cons ej_str (aj_cons ej_str aj_nil))))
(bj_weak (bj_one (sj_weak (Γ2 := [some (.own), some (.bor [.prm]), some (.bor [.prm]), some (.own), some (.own), some (.bor [.prm]), some (.own)]) (sj_set (i := 6) sc__law_renamed.nd rfl (ej_flat (ej_catT (ej_slT (ej_var (i := 6) (k := .bor [.prm, .slt 6]) rfl (pv 6)) oj_none (oj_some ej_int)) (ej_tup (aj_cons (ej_flat (ej_ix (ej_var (i := 3) (k := .own) rfl (pv 3)) (ej_ix (ej_var (i := 6) (k := .bor [.prm, .slt 6]) rfl (pv 6)) ej_int))) (aj_cons (ej_flat (ej_ix (ej_var (i := 3) (k := .own) rfl (pv 3)) (ej_ix (ej_var (i := 6) (k := .bor [.prm, .slt 6]) rfl (pv 6)) ej_int))) aj_nil)))))))))
(bj_weak bj_nil))
(bj_one (sj_setix (r := 4) (pv 4) (ej_flat (ej_var (i := 6) (k := .bor [.prm, .slt 6]) rfl (pv 6))) (ej_ix (ej_var (i := 3) (k := .own) rfl (pv 3)) (ej_var (i := 5) (k := .bor [.prm]) rfl (pv 5))))))))))
(bj_one (sm_ret (em_tup (am_cons (em_var (i := 4) (Γ' := [some (.own), some (.bor [.prm]), some (.bor [.prm]), some (.own), none, none, none]) rfl (pv 4)) (am_cons (em_of (ej_flat (ej_ix (ej_var (i := 3) (k := .own) rfl (pv 3)) (ej_var (i := 2) (k := .bor [.prm]) rfl (pv 2))))) am_nil))))))))
theorem sc_first_lead : FnScope ["rows", "k", "i"] ["rows", "k"] (defScope (top 33)) := ⟨rfl, rfl, rfl, by decide +kernel, rfl, by decide +kernel, by decide +kernel⟩
theorem c_first_lead (c : Faz fa fn cs K mg) : Fnc P w K mg base "first_lead" 1 2 [] true d_first_lead :=
  fnc_of c.toFax 7 7 (Γ' := ctxIo 3 []) rfl rfl sc_first_lead rfl rfl (by decide) (by decide) (by decide) (fun _ _ _ _ _ _ us hl => match us, hl with | [_, _], _ => rfl) fun cdv A outer s H E hr =>
  (bj_cons (sj_pre (Γ1 := [some (.bor [.prm]), some (.bor [.prm]), none]) (sj_for (T := .nm 2) (Γ' := [some (.bor [.prm]), some (.bor [.prm]), none]) passes_c rfl (ij_range2 (c.free 35 rfl) (aj_cons (ej_flat (ej_var (i := 1) (k := .bor [.prm]) rfl (pv 1))) (aj_cons (ej_len (c.free 32 rfl) (aj_cons (ej_var (i := 0) (k := .bor [.prm]) rfl (pv 0)) aj_nil)) aj_nil))) (pg_name sc_first_lead.nd rfl (.inl rfl))
(bj_weak (bj_one (sj_if (Γ' := [some (.bor [.prm]), some (.bor [.prm]), some (.bor [])]) (tj_ne (hu64 hr) (ej_ix (ej_ix (ej_var (i := 0) (k := .bor [.prm]) rfl (pv 0)) (ej_var (i := 2) (k := .bor []) rfl (pv 2))) (ej_var (i := 1) (k := .bor [.prm]) rfl (pv 1))) (ej_cst (c.cst 0 rfl)))
(bj_one (sj_ret (ej_flat (ej_var (i := 2) (k := .bor []) rfl (pv 2)))))
(bj_weak bj_nil))))))
(bj_one (sj_ret ej_non)))
theorem sc_shared : FnScope ["one", "other"] ["one", "other"] (defScope (top 7)) := ⟨rfl, rfl, rfl, by decide +kernel, rfl, by decide +kernel, by decide +kernel⟩
theorem c_shared (c : Faz fa fn cs K mg) : Fnc P w K mg base "shared" 1 2 [] true d_shared :=
  fnc_of c.toFax 8 8 (Γ' := ctxIo 2 []) rfl rfl sc_shared rfl rfl (by decide) (by decide) (by decide) (fun _ _ _ _ _ _ us hl => match us, hl with | [_, _], _ => rfl) fun cdv A outer s H E hr =>
  (bj_cons (sj_weak (Γ2 := [some (.own), some (.own)]) (sj_par (i := 0) (j := 1) rfl sc_shared.nd rfl rfl (aj_cons (ej_abs (c.free 33 rfl) (aj_cons (ej_var (i := 0) (k := .bor [.prm]) rfl (pv 0)) aj_nil)) (aj_cons (ej_abs (c.free 33 rfl) (aj_cons (ej_var (i := 1) (k := .bor [.prm]) rfl (pv 1)) aj_nil)) aj_nil))))
(bj_cons (sj_pre (Γ1 := [some (.own), some (.own)]) (sj_while passes_c (tj_gt (ej_var (i := 1) (k := .own) rfl (pv 1)) ej_int)
(bj_weak (bj_one (sj_weak (Γ2 := [some (.own), some (.own)]) (sj_par (i := 0) (j := 1) rfl sc_shared.nd rfl rfl (aj_cons (ej_flat (ej_var (i := 1) (k := .own) rfl (pv 1))) (aj_cons (ej_mod (ej_var (i := 0) (k := .own) rfl (pv 0)) (ej_var (i := 1) (k := .own) rfl (pv 1))) aj_nil))))))))
(bj_one (sj_ret (ej_flat (ej_var (i := 0) (k := .own) rfl (pv 0)))))))
theorem sc_fraction : FnScope ["top", "bottom", "common"] ["top", "bottom"] (defScope (top 8)) := ⟨rfl, rfl, rfl, by decide +kernel, rfl, by decide +kernel, by decide +kernel⟩
theorem c_fraction (c : Faz fa fn cs K mg) : Fnc P w K mg base "fraction" 2 2 [] true d_fraction :=
  fnc_of c.toFax 9 9 (Γ' := ctxIo 3 []) rfl rfl sc_fraction rfl rfl (by decide) (by decide) (by decide) (fun _ _ _ _ _ _ us hl => match us, hl with | [_, _], _ => rfl) fun cdv A outer s H E hr =>
  (bj_cons (sj_if (Γ' := [some (.bor [.prm]), some (.bor [.prm]), none]) (tj_eq (hu64 hr) (ej_var (i := 1) (k := .bor [.prm]) rfl (pv 1)) ej_int)
(bj_one (sj_raiseX c.x rfl takes_c (c.glo 39 rfl)))
(bj_weak bj_nil))
(bj_cons (sj_weak (Γ2 := [some (.bor [.prm]), some (.bor [.prm]), some (.own)]) (sj_set (i := 2) sc_fraction.nd rfl (ej_callC (rs := []) (c_shared c) rfl (hr.mono (by decide)) takes_c (aj_cons (ej_var (i := 0) (k := .bor [.prm]) rfl (pv 0)) (aj_cons (ej_var (i := 1) (k := .bor [.prm]) rfl (pv 1)) aj_nil)) ⟨by decide, by decide, rfl, by decide, by decide, by decide, by decide, by decide, by decide, by decide⟩)))
(bj_cons (sj_if (Γ' := [some (.bor [.prm]), some (.bor [.prm]), some (.own)]) (tj_lt (ej_var (i := 1) (k := .bor [.prm]) rfl (pv 1)) ej_int)
(bj_weak (bj_one (sj_weak (Γ2 := [some (.bor [.prm]), some (.bor [.prm]), some (.own)]) (sj_set (i := 2) sc_fraction.nd rfl (ej_sub ej_int (ej_var (i := 2) (k := .own) rfl (pv 2)))))))
(bj_weak bj_nil))
(bj_one (sj_ret (ej_tup (aj_cons (ej_div (ej_var (i := 0) (k := .bor [.prm]) rfl (pv 0)) (ej_var (i := 2) (k := .own) rfl (pv 2))) (aj_cons (ej_div (ej_var (i := 1) (k := .bor [.prm]) rfl (pv 1)) (ej_var (i := 2) (k := .own) rfl (pv 2))) aj_nil))))))))
theorem sc_less : FnScope ["one", "other"] ["one", "other"] (defScope (top 10)) := ⟨rfl, rfl, rfl, by decide +kernel, rfl, by decide +kernel, by decide +kernel⟩
theorem c_less (c : Faz fa fn cs K mg) : Fnc P w K mg base "less" 3 2 [] true d_less :=
  fnc_of c.toFax 10 10 (Γ' := ctxIo 2 []) rfl rfl sc_less rfl rfl (by decide) (by decide) (by decide) (fun _ _ _ _ _ _ us hl => match us, hl with | [_, _], _ => rfl) fun cdv A outer s H E hr =>
  (bj_one (sj_ret (ej_callC (rs := []) (c_fraction c) rfl (hr.mono (by decide)) takes_c (aj_cons (ej_sub (ej_mul (ej_ix (ej_var (i := 0) (k := .bor [.prm]) rfl (pv 0)) ej_int) (ej_ix (ej_var (i := 1) (k := .bor [.prm]) rfl (pv 1)) ej_int)) (ej_mul (ej_ix (ej_var (i := 1) (k := .bor [.prm]) rfl (pv 1)) ej_int) (ej_ix (ej_var (i := 0) (k := .bor [.prm]) rfl (pv 0)) ej_int))) (aj_cons (ej_mul (ej_ix (ej_var (i := 0) (k := .bor [.prm]) rfl (pv 0)) ej_int) (ej_ix (ej_var (i := 1) (k := .bor [.prm]) rfl (pv 1)) ej_int)) aj_nil)) ⟨by decide, by decide, rfl, by decide, by decide, by decide, by decide, by decide, by decide, by decide⟩)))
theorem sc_over : FnScope ["one", "other"] ["one", "other"] (defScope (top 12)) := ⟨rfl, rfl, rfl, by decide +kernel, rfl, by decide +kernel, by decide +kernel⟩
theorem c_over (c : Faz fa fn cs K mg) : Fnc P w K mg base "over" 3 2 [] true d_over :=
  fnc_of c.toFax 11 11 (Γ' := ctxIo 2 []) rfl rfl sc_over rfl rfl (by decide) (by decide) (by decide) (fun _ _ _ _ _ _ us hl => match us, hl with | [_, _], _ => rfl) fun cdv A outer s H E hr =>
  (bj_one (sj_ret (ej_callC (rs := []) (c_fraction c) rfl (hr.mono (by decide)) takes_c (aj_cons (ej_mul (ej_ix (ej_var (i := 0) (k := .bor [.prm]) rfl (pv 0)) ej_int) (ej_ix (ej_var (i := 1) (k := .bor [.prm]) rfl (pv 1)) ej_int)) (aj_cons (ej_mul (ej_ix (ej_var (i := 0) (k := .bor [.prm]) rfl (pv 0)) ej_int) (ej_ix (ej_var (i := 1) (k := .bor [.prm]) rfl (pv 1)) ej_int)) aj_nil)) ⟨by decide, by decide, rfl, by decide, by decide, by decide, by decide, by decide, by decide, by decide⟩)))
theorem sc_times : FnScope ["one", "other"] ["one", "other"] (defScope (top 11)) := ⟨rfl, rfl, rfl, by decide +kernel, rfl, by decide +kernel, by decide +kernel⟩
theorem c_times (c : Faz fa fn cs K mg) : Fnc P w K mg base "times" 3 2 [] true d_times :=
  fnc_of c.toFax 12 12 (Γ' := ctxIo 2 []) rfl rfl sc_times rfl rfl (by decide) (by decide) (by decide) (fun _ _ _ _ _ _ us hl => match us, hl with | [_, _], _ => rfl) fun cdv A outer s H E hr =>
  (bj_one (sj_ret (ej_callC (rs := []) (c_fraction c) rfl (hr.mono (by decide)) takes_c (aj_cons (ej_mul (ej_ix (ej_var (i := 0) (k := .bor [.prm]) rfl (pv 0)) ej_int) (ej_ix (ej_var (i := 1) (k := .bor [.prm]) rfl (pv 1)) ej_int)) (aj_cons (ej_mul (ej_ix (ej_var (i := 0) (k := .bor [.prm]) rfl (pv 0)) ej_int) (ej_ix (ej_var (i := 1) (k := .bor [.prm]) rfl (pv 1)) ej_int)) aj_nil)) ⟨by decide, by decide, rfl, by decide, by decide, by decide, by decide, by decide, by decide, by decide⟩)))
theorem sc_row_less : FnScope ["row", "often", "other", "own", "far"] ["row", "often", "other"] (defScope (top 32)) := ⟨rfl, rfl, rfl, by decide +kernel, rfl, by decide +kernel, by decide +kernel⟩
theorem c_row_less (c : Faz fa fn cs K mg) : Fnc P w K mg base "row_less" 4 3 [] true d_row_less :=
  fnc_of c.toFax 13 13 (Γ' := ctxIo 5 []) rfl rfl sc_row_less rfl rfl (by decide) (by decide) (by decide) (fun _ _ _ _ _ _ us hl => match us, hl with | [_, _, _], _ => rfl) fun cdv A outer s H E hr =>
  (bj_one (sj_ret (ej_lc (own := [("own", 3), ("far", 4)]) (T := .tp [3, 4]) (vr := []) (Γ' := [some (.bor [.prm]), some (.bor [.prm]), some (.bor [.prm]), some (.bor [.prm, .prm]), some (.bor [.prm, .prm])]) rfl sc_row_less.nd (ij_zip (c.free 40 rfl) (aj_cons (ej_var (i := 0) (k := .bor [.prm]) rfl (pv 0)) (aj_cons (ej_var (i := 2) (k := .bor [.prm]) rfl (pv 2)) aj_nil))) (blkOk_by (N := ["row", "often", "other", "own", "far"]) (sc := defScope (top 32)) (by decide +kernel)) (fun _ _ _ _ _ => (pg_tup rfl (pgs_cons (pg_name sc_row_less.nd rfl (.inl rfl)) (pgs_cons (pg_name sc_row_less.nd rfl (.inl rfl)) pgs_nil)))) (fun _ _ _ _ _ => ptj_nil) (fun _ _ _ _ _ => (ej_callC (rs := []) (c_less c) rfl (hr.mono (by decide)) takesN (aj_cons (ej_var (i := 3) (k := .bor [.prm, .prm]) rfl (pv 3)) (aj_cons (ej_callC (rs := []) (c_times c) rfl (hr.mono (by decide)) takesN (aj_cons (ej_var (i := 1) (k := .bor [.prm]) rfl (pv 1)) (aj_cons (ej_var (i := 4) (k := .bor [.prm, .prm]) rfl (pv 4)) aj_nil)) ⟨by decide, by decide, rfl, by decide, by decide, by decide, by decide, by decide, by decide, by decide⟩) aj_nil)) ⟨by decide, by decide, rfl, by decide, by decide, by decide, by decide, by decide, by decide, by decide⟩)) ⟨by decide, by decide, by decide, by decide, by decide, by decide, by decide, by decide⟩)))
theorem sc_determinant : FnScope ["square", "rows", "found", "k", "lead", "i", "row"] ["square"] (defScope (top 34)) := ⟨rfl, rfl, rfl, by decide +kernel, rfl, by decide +kernel, by decide +kernel⟩
theorem c_determinant (c : Faz fa fn cs K mg) : Fnc P w K mg base "determinant" 5 1 [] true d_determinant :=
  fnc_of c.toFax 14 14 (Γ' := ctxIo 7 []) rfl rfl sc_determinant rfl rfl (by decide) (by decide) (by decide) (fun _ _ _ _ _ _ us hl => match us, hl with | [_], _ => rfl) fun cdv A outer s H E hr =>
  (bj_cons (sj_weak (Γ2 := [some (.bor [.prm]), some (.own), none, none, none, none, none]) (sj_setLc (own := [("row", 6)]) (T := .nm 6) (vr := []) (Γ' := [some (.bor [.prm]), none, none, none, none, none, some (.bor [.prm])]) rfl sc_determinant.nd rfl (ij_list (ej_var (i := 0) (k := .bor [.prm]) rfl (pv 0))) (blkOk_by (N := ["square", "rows", "found", "k", "lead", "i", "row"]) (sc := defScope (top 34)) (by decide +kernel)) (fun _ _ _ _ _ => (pg_name sc_determinant.nd rfl (.inl rfl))) (fun _ _ _ _ _ => ptj_nil) (fun _ _ _ _ _ => (ej_flatL (ej_listOf (c.free 37 rfl) (aj_cons (ej_var (i := 6) (k := .bor [.prm]) rfl (pv 6)) aj_nil)))) ⟨by decide, by decide, by decide, by decide, by decide, by decide, by decide, by decide⟩))
(bj_cons (sj_weak (Γ2 := [some (.bor [.prm]), some (.own), some (.own), none, none, none, none]) (sj_set (i := 2) sc_determinant.nd rfl (ej_cst (c.cst 1 rfl))))
(bj_cons (sj_pre (Γ1 := [some (.bor [.prm]), some (.own), some (.own), none, none, none, none]) (sj_for (T := .nm 3) (Γ' := [some (.bor [.prm]), some (.own), some (.own), none, none, none, none]) passes_c rfl (ij_range1 (c.free 35 rfl) (aj_cons (ej_len (c.free 32 rfl) (aj_cons (ej_var (i := 1) (k := .own) rfl (pv 1)) aj_nil)) aj_nil)) (pg_name sc_determinant.nd rfl (.inl rfl))
(bj_weak (bj_cons (sj_weak (Γ2 := [some (.bor [.prm]), some (.own), some (.own), some (.bor []), some (.own), none, none]) (sj_set (i := 4) sc_determinant.nd rfl (ej_callC (rs := []) (c_first_lead c) rfl (hr.mono (by decide)) takes_c (aj_cons (ej_var (i := 1) (k := .own) rfl (pv 1)) (aj_cons (ej_var (i := 3) (k := .bor []) rfl (pv 3)) aj_nil)) ⟨by decide, by decide, rfl, by decide, by decide, by decide, by decide, by decide, by decide, by decide⟩)))
(bj_cons (sj_if (Γ' := [some (.bor [.prm]), some (.own), some (.own), some (.bor []), some (.own), none, none]) (tj_cmpG op_isN dIsN_ok (ej_var (i := 4) (k := .own) rfl (pv 4)) ej_non)
(bj_one (sj_ret (ej_cst (c.cst 0 rfl))))
(bj_weak bj_nil))
(bj_cons (sj_if (Γ' := [some (.bor [.prm]), some (.own), some (.own), some (.bor []), some (.own), none, none]) (tj_ne (hu64 hr) (ej_var (i := 4) (k := .own) rfl (pv 4)) (ej_var (i := 3) (k := .bor []) rfl (pv 3)))
(bj_weak (bj_cons (sj_swapIx (r := 1) (i := 3) (j := 4) rfl rfl rfl rfl (fun _ => pv 1) (fun _ => pv 3) (fun _ => pv 4))
(bj_one (sj_weak (Γ2 := [some (.bor [.prm]), some (.own), some (.own), some (.bor []), some (.own), none, none]) (sj_set (i := 2) sc_determinant.nd rfl (ej_callC (rs := []) (c_less c) rfl (hr.mono (by decide)) takes_c (aj_cons (ej_cst (c.cst 0 rfl)) (aj_cons (ej_var (i := 2) (k := .own) rfl (pv 2)) aj_nil)) ⟨by decide, by decide, rfl, by decide, by decide, by decide, by decide, by decide, by decide, by decide⟩))))))
(bj_weak bj_nil))
(bj_cons (sj_weak (Γ2 := [some (.bor [.prm]), some (.own), some (.own), some (.bor []), some (.own), none, none]) (sj_set (i := 2) sc_determinant.nd rfl (ej_callC (rs := []) (c_times c) rfl (hr.mono (by decide)) takes_c (aj_cons (ej_var (i := 2) (k := .own) rfl (pv 2)) (aj_cons (ej_ix (ej_ix (ej_var (i := 1) (k := .own) rfl (pv 1)) (ej_var (i := 3) (k := .bor []) rfl (pv 3))) (ej_var (i := 3) (k := .bor []) rfl (pv 3))) aj_nil)) ⟨by decide, by decide, rfl, by decide, by decide, by decide, by decide, by decide, by decide, by decide⟩)))
(bj_one (sj_pre (Γ1 := [some (.bor [.prm]), some (.own), some (.own), some (.bor []), some (.own), none, none]) (sj_for (T := .nm 5) (Γ' := [some (.bor [.prm]), some (.own), some (.own), some (.bor []), some (.own), none, none]) passes_c rfl (ij_range2 (c.free 35 rfl) (aj_cons (ej_add (ej_var (i := 3) (k := .bor []) rfl (pv 3)) ej_int) (aj_cons (ej_len (c.free 32 rfl) (aj_cons (ej_var (i := 1) (k := .own) rfl (pv 1)) aj_nil)) aj_nil))) (pg_name sc_determinant.nd rfl (.inl rfl))
(bj_weak (bj_one (sj_setix (r := 1) (pv 1) (ej_callC (rs := []) (c_row_less c) rfl (hr.mono (by decide)) takes_c (aj_cons (ej_ix (ej_var (i := 1) (k := .own) rfl (pv 1)) (ej_var (i := 5) (k := .bor []) rfl (pv 5))) (aj_cons (ej_callC (rs := []) (c_over c) rfl (hr.mono (by decide)) takes_c (aj_cons (ej_ix (ej_ix (ej_var (i := 1) (k := .own) rfl (pv 1)) (ej_var (i := 5) (k := .bor []) rfl (pv 5))) (ej_var (i := 3) (k := .bor []) rfl (pv 3))) (aj_cons (ej_ix (ej_ix (ej_var (i := 1) (k := .own) rfl (pv 1)) (ej_var (i := 3) (k := .bor []) rfl (pv 3))) (ej_var (i := 3) (k := .bor []) rfl (pv 3))) aj_nil)) ⟨by decide, by decide, rfl, by decide, by decide, by decide, by decide, by decide, by decide, by decide⟩) (aj_cons (ej_ix (ej_var (i := 1) (k := .own) rfl (pv 1)) (ej_var (i := 3) (k := .bor []) rfl (pv 3))) aj_nil))) ⟨by decide, by decide, rfl, by decide, by decide, by decide, by decide, by decide, by decide, by decide⟩) (ej_var (i := 5) (k := .bor []) rfl (pv 5)))))))))))))))
(bj_one (sj_ret (ej_flat (ej_var (i := 2) (k := .own) rfl (pv 2))))))))
theorem sc_discs_of : FnScope ["machine", "shaft"] ["machine"] (defScope (top 19)) := ⟨rfl, rfl, rfl, by decide +kernel, rfl, by decide +kernel, by decide +kernel⟩
theorem c_discs_of (c : Faz fa fn cs K mg) : Fnc P w K mg base "discs_of" 1 1 [] true d_discs_of :=
  fnc_of c.toFax 15 15 (Γ' := ctxIo 2 []) rfl rfl sc_discs_of rfl rfl (by decide) (by decide) (by decide) (fun _ _ _ _ _ _ us hl => match us, hl with | [_], _ => rfl) fun cdv A outer s H E hr =>
  (bj_one (sj_ret (ej_lc (own := [("shaft", 1)]) (T := .nm 1) (vr := []) (Γ' := [some (.bor [.prm]), some (.bor [])]) rfl sc_discs_of.nd (ij_range1 (c.free 35 rfl) (aj_cons (ej_len (c.free 32 rfl) (aj_cons (ej_var (i := 0) (k := .bor [.prm]) rfl (pv 0)) aj_nil)) aj_nil)) (blkOk_by (N := ["machine", "shaft"]) (sc := defScope (top 19)) (by decide +kernel)) (fun _ _ _ _ _ => (pg_name sc_discs_of.nd rfl (.inl rfl))) (fun _ _ _ _ _ => (ptj_one (tj_eq (hu64 hr) (ej_ix (ej_ix (ej_var (i := 0) (k := .bor [.prm]) rfl (pv 0)) (ej_var (i := 1) (k := .bor []) rfl (pv 1))) ej_int) ej_str))) (fun _ _ _ _ _ => (ej_flat (ej_var (i := 1) (k := .bor []) rfl (pv 1)))) ⟨by decide, by decide, by decide, by decide, by decide, by decide, by decide, by decide⟩)))
theorem sc_is_source : FnScope ["row"] ["row"] (defScope (top 15)) := ⟨rfl, rfl, rfl, by decide +kernel, rfl, by decide +kernel, by decide +kernel⟩
theorem c_is_source (c : Faz fa fn cs K mg) : Fnc P w K mg base "is_source" 1 1 [] true d_is_source :=
  fnc_of c.toFax 16 16 (Γ' := ctxIo 1 []) rfl rfl sc_is_source rfl rfl (by decide) (by decide) (by decide) (fun _ _ _ _ _ _ us hl => match us, hl with | [_], _ => rfl) fun cdv A outer s H E hr =>
  (bj_one (sj_ret (ej_eq (hu64 hr) (ej_ix (ej_var (i := 0) (k := .bor [.prm]) rfl (pv 0)) ej_int) ej_str)))
theorem sc_is_even : FnScope ["machine", "disc"] ["machine"] (defScope (top 20)) := ⟨rfl, rfl, rfl, by decide +kernel, rfl, by decide +kernel, by decide +kernel⟩
theorem c_is_even (c : Faz fa fn cs K mg) : Fnc P w K mg base "is_even" 2 1 [] true d_is_even :=
  fnc_of c.toFax 17 17 (Γ' := ctxIo 2 []) rfl rfl sc_is_even rfl rfl (by decide) (by decide) (by decide) (fun _ _ _ _ _ _ us hl => match us, hl with | [_], _ => rfl) fun cdv A outer s H E hr =>
  (bj_one (sj_ret (ej_all rfl (c.free 41 rfl) (aj_cons (ej_lc (own := [("disc", 1)]) (T := .nm 1) (vr := []) (Γ' := [some (.bor [.prm]), some (.bor [.tmp 0])]) rfl sc_is_even.nd (ij_list (ej_callC (rs := []) (c_discs_of c) rfl (hr.mono (by decide)) takes_c (aj_cons (ej_var (i := 0) (k := .bor [.prm]) rfl (pv 0)) aj_nil) ⟨by decide, by decide, rfl, by decide, by decide, by decide, by decide, by decide, by decide, by decide⟩)) (blkOk_by (N := ["machine", "disc"]) (sc := defScope (top 20)) (by decide +kernel)) (fun _ _ _ _ _ => (pg_name sc_is_even.nd rfl (.inl rfl))) (fun _ _ _ _ _ => ptj_nil) (fun _ _ _ _ _ => (ej_callC (rs := []) (c_is_source c) rfl (hr.mono (by decide)) takesN (aj_cons (ej_ix (ej_var (i := 0) (k := .bor [.prm]) rfl (pv 0)) (ej_ix (ej_ix (ej_var (i := 0) (k := .bor [.prm]) rfl (pv 0)) (ej_var (i := 1) (k := .bor [.tmp 0]) rfl (pv 1))) ej_int)) aj_nil) ⟨by decide, by decide, rfl, by decide, by decide, by decide, by decide, by decide, by decide, by decide⟩)) ⟨by decide, by decide, by decide, by decide, by decide, by decide, by decide, by decide⟩) aj_nil))))
theorem sc_look_even : FnScope ["machine"] ["machine"] (defScope (top 27)) := ⟨rfl, rfl, rfl, by decide +kernel, rfl, by decide +kernel, by decide +kernel⟩
theorem c_look_even (c : Faz fa fn cs K mg) : Fnc P w K mg base "look_even" 3 1 [] true d_look_even :=
  fnc_of c.toFax 18 18 (Γ' := ctxIo 1 []) rfl rfl sc_look_even rfl rfl (by decide) (by decide) (by decide) (fun _ _ _ _ _ _ us hl => match us, hl with | [_], _ => rfl) fun cdv A outer s H E hr =>
  (bj_weak (Γ2 := ctxIo 1 []) (bj_one (sj_if (Γ' := [some (.bor [.prm])]) (tj_not (tj_truth (ej_callC (rs := []) (c_is_even c) rfl (hr.mono (by decide)) takes_c (aj_cons (ej_var (i := 0) (k := .bor [.prm]) rfl (pv 0)) aj_nil) ⟨by decide, by decide, rfl, by decide, by decide, by decide, by decide, by decide, by decide, by decide⟩)))
(bj_one (sj_raiseX c.x rfl takes_c (c.glo 42 rfl)))
(bj_weak bj_nil))))
theorem sc_square_from : FnScope ["worths", "r", "i"] ["worths", "r"] (defScope (top 30)) := ⟨rfl, rfl, rfl, by decide +kernel, rfl, by decide +kernel, by decide +kernel⟩
theorem c_square_from (c : Faz fa fn cs K mg) : Fnc P w K mg base "square_from" 1 2 [] true d_square_from :=
  fnc_of c.toFax 19 19 (Γ' := ctxIo 3 []) rfl rfl sc_square_from rfl rfl (by decide) (by decide) (by decide) (fun _ _ _ _ _ _ us hl => match us, hl with | [_, _], _ => rfl) fun cdv A outer s H E hr =>
  (bj_one (sj_ret (ej_lc (own := [("i", 2)]) (T := .nm 2) (vr := []) (Γ' := [some (.bor [.prm]), some (.bor [.prm]), some (.bor [])]) rfl sc_square_from.nd (ij_range1 (c.free 35 rfl) (aj_cons (ej_flat (ej_var (i := 1) (k := .bor [.prm]) rfl (pv 1))) aj_nil)) (blkOk_by (N := ["worths", "r", "i"]) (sc := defScope (top 30)) (by decide +kernel)) (fun _ _ _ _ _ => (pg_name sc_square_from.nd rfl (.inl rfl))) (fun _ _ _ _ _ => ptj_nil) (fun _ _ _ _ _ => (ej_flatL (ej_slL (ej_var (i := 0) (k := .bor [.prm]) rfl (pv 0)) (oj_some (ej_add (ej_var (i := 2) (k := .bor []) rfl (pv 2)) ej_int)) (oj_some (ej_add (ej_add (ej_var (i := 2) (k := .bor []) rfl (pv 2)) ej_int) (ej_var (i := 1) (k := .bor [.prm]) rfl (pv 1))))))) ⟨by decide, by decide, by decide, by decide, by decide, by decide, by decide, by decide⟩)))
theorem sc_plus : FnScope ["one", "other"] ["one", "other"] (defScope (top 9)) := ⟨rfl, rfl, rfl, by decide +kernel, rfl, by decide +kernel, by decide +kernel⟩
theorem c_plus (c : Faz fa fn cs K mg) : Fnc P w K mg base "plus" 3 2 [] true d_plus :=
  fnc_of c.toFax 20 20 (Γ' := ctxIo 2 []) rfl rfl sc_plus rfl rfl (by decide) (by decide) (by decide) (fun _ _ _ _ _ _ us hl => match us, hl with | [_, _], _ => rfl) fun cdv A outer s H E hr =>
  (bj_one (sj_ret (ej_callC (rs := []) (c_fraction c) rfl (hr.mono (by decide)) takes_c (aj_cons (ej_add (ej_mul (ej_ix (ej_var (i := 0) (k := .bor [.prm]) rfl (pv 0)) ej_int) (ej_ix (ej_var (i := 1) (k := .bor [.prm]) rfl (pv 1)) ej_int)) (ej_mul (ej_ix (ej_var (i := 1) (k := .bor [.prm]) rfl (pv 1)) ej_int) (ej_ix (ej_var (i := 0) (k := .bor [.prm]) rfl (pv 0)) ej_int))) (aj_cons (ej_mul (ej_ix (ej_var (i := 0) (k := .bor [.prm]) rfl (pv 0)) ej_int) (ej_ix (ej_var (i := 1) (k := .bor [.prm]) rfl (pv 1)) ej_int)) aj_nil)) ⟨by decide, by decide, rfl, by decide, by decide, by decide, by decide, by decide, by decide, by decide⟩)))
theorem sc_whole : FnScope ["n"] ["n"] (defScope (top 13)) := ⟨rfl, rfl, rfl, by decide +kernel, rfl, by decide +kernel, by decide +kernel⟩
theorem c_whole (c : Faz fa fn cs K mg) : Fnc P w K mg base "whole" 1 1 [] true d_whole :=
  fnc_of c.toFax 21 21 (Γ' := ctxIo 1 []) rfl rfl sc_whole rfl rfl (by decide) (by decide) (by decide) (fun _ _ _ _ _ _ us hl => match us, hl with | [_], _ => rfl) fun cdv A outer s H E hr =>
  (bj_one (sj_ret (ej_tup (aj_cons (ej_flat (ej_var (i := 0) (k := .bor [.prm]) rfl (pv 0))) (aj_cons ej_int aj_nil)))))
theorem sc_term_along : FnScope ["one", "other", "k", "found", "i"] ["one", "other", "k"] (defScope (top 22)) := ⟨rfl, rfl, rfl, by decide +kernel, rfl, by decide +kernel, by decide +kernel⟩
theorem c_term_along (c : Faz fa fn cs K mg) : Fnc P w K mg base "term_along" 4 3 [] true d_term_along :=
  fnc_of c.toFax 22 22 (Γ' := ctxIo 5 []) rfl rfl sc_term_along rfl rfl (by decide) (by decide) (by decide) (fun _ _ _ _ _ _ us hl => match us, hl with | [_, _, _], _ => rfl) fun cdv A outer s H E hr =>
  (bj_cons (sj_weak (Γ2 := [some (.bor [.prm]), some (.bor [.prm]), some (.bor [.prm]), some (.own), none]) (sj_set (i := 3) sc_term_along.nd rfl (ej_cst (c.cst 0 rfl))))
(bj_cons (sj_pre (Γ1 := [some (.bor [.prm]), some (.bor [.prm]), some (.bor [.prm]), some (.own), none]) (sj_for (T := .nm 4) (Γ' := [some (.bor [.prm]), some (.bor [.prm]), some (.bor [.prm]), some (.own), none]) passes_c rfl (ij_range1 (c.free 35 rfl) (aj_cons (ej_flat (ej_var (i := 2) (k := .bor [.prm]) rfl (pv 2))) aj_nil)) (pg_name sc_term_along.nd rfl (.inl rfl))
(bj_weak (bj_one (sj_weak (Γ2 := [some (.bor [.prm]), some (.bor [.prm]), some (.bor [.prm]), some (.own), some (.bor [])]) (sj_set (i := 3) sc_term_along.nd rfl (ej_callC (rs := []) (c_plus c) rfl (hr.mono (by decide)) takes_c (aj_cons (ej_var (i := 3) (k := .own) rfl (pv 3)) (aj_cons (ej_callC (rs := []) (c_times c) rfl (hr.mono (by decide)) takes_c (aj_cons (ej_callC (rs := []) (c_whole c) rfl (hr.mono (by decide)) takes_c (aj_cons (ej_sub (ej_var (i := 2) (k := .bor [.prm]) rfl (pv 2)) (ej_var (i := 4) (k := .bor []) rfl (pv 4))) aj_nil) ⟨by decide, by decide, rfl, by decide, by decide, by decide, by decide, by decide, by decide, by decide⟩) (aj_cons (ej_callC (rs := []) (c_times c) rfl (hr.mono (by decide)) takes_c (aj_cons (ej_ix (ej_var (i := 0) (k := .bor [.prm]) rfl (pv 0)) (ej_var (i := 4) (k := .bor []) rfl (pv 4))) (aj_cons (ej_ix (ej_var (i := 1) (k := .bor [.prm]) rfl (pv 1)) (ej_sub (ej_var (i := 2) (k := .bor [.prm]) rfl (pv 2)) (ej_var (i := 4) (k := .bor []) rfl (pv 4)))) aj_nil)) ⟨by decide, by decide, rfl, by decide, by decide, by decide, by decide, by decide, by decide, by decide⟩) aj_nil)) ⟨by decide, by decide, rfl, by decide, by decide, by decide, by decide, by decide, by decide, by decide⟩) aj_nil)) ⟨by decide, by decide, rfl, by decide, by decide, by decide, by decide, by decide, by decide, by decide⟩)))))))
(bj_one (sj_ret (ej_callC (rs := []) (c_over c) rfl (hr.mono (by decide)) takes_c (aj_cons (ej_var (i := 3) (k := .own) rfl (pv 3)) (aj_cons (ej_callC (rs := []) (c_whole c) rfl (hr.mono (by decide)) takes_c (aj_cons (ej_var (i := 2) (k := .bor [.prm]) rfl (pv 2)) aj_nil) ⟨by decide, by decide, rfl, by decide, by decide, by decide, by decide, by decide, by decide, by decide⟩) aj_nil)) ⟨by decide, by decide, rfl, by decide, by decide, by decide, by decide, by decide, by decide, by decide⟩)))))
theorem sc_further_term : FnScope ["row", "series", "k"] ["row", "series", "k"] (defScope (top 24)) := ⟨rfl, rfl, rfl, by decide +kernel, rfl, by decide +kernel, by decide +kernel⟩
theorem c_further_term (c : Faz fa fn cs K mg) : Fnc P w K mg base "further_term" 5 3 [] true d_further_term :=
  fnc_of c.toFax 23 23 (Γ' := ctxIo 3 []) rfl rfl sc_further_term rfl rfl (by decide) (by decide) (by decide) (fun _ _ _ _ _ _ us hl => match us, hl with | [_, _, _], _ => rfl) fun cdv A outer s H E hr =>
  (bj_cons (sj_if (Γ' := [some (.bor [.prm]), some (.bor [.prm]), some (.bor [.prm])]) (tj_eq (hu64 hr) (ej_ix (ej_var (i := 0) (k := .bor [.prm]) rfl (pv 0)) ej_int) ej_str)
(bj_one (sj_ret (ej_if (tj_eq (hu64 hr) (ej_var (i := 2) (k := .bor [.prm]) rfl (pv 2)) ej_int) (ej_cst (c.cst 1 rfl)) (ej_cst (c.cst 0 rfl)))))
(bj_weak bj_nil))
(bj_cons (sj_if (Γ' := [some (.bor [.prm]), some (.bor [.prm]), some (.bor [.prm])]) (tj_eq (hu64 hr) (ej_ix (ej_var (i := 0) (k := .bor [.prm]) rfl (pv 0)) ej_int) ej_str)
(bj_one (sj_ret (ej_callC (rs := []) (c_times c) rfl (hr.mono (by decide)) takes_c (aj_cons (ej_ix (ej_var (i := 0) (k := .bor [.prm]) rfl (pv 0)) ej_int) (aj_cons (ej_ix (ej_ix (ej_var (i := 1) (k := .bor [.prm]) rfl (pv 1)) (ej_ix (ej_var (i := 0) (k := .bor [.prm]) rfl (pv 0)) ej_int)) (ej_var (i := 2) (k := .bor [.prm]) rfl (pv 2))) aj_nil)) ⟨by decide, by decide, rfl, by decide, by decide, by decide, by decide, by decide, by decide, by decide⟩)))
(bj_weak bj_nil))
(bj_cons (sj_if (Γ' := [some (.bor [.prm]), some (.bor [.prm]), some (.bor [.prm])]) (tj_eq (hu64 hr) (ej_ix (ej_var (i := 0) (k := .bor [.prm]) rfl (pv 0)) ej_int) ej_str)
(bj_one (sj_ret (ej_callC (rs := []) (c_plus c) rfl (hr.mono (by decide)) takes_c (aj_cons (ej_ix (ej_ix (ej_var (i := 1) (k := .bor [.prm]) rfl (pv 1)) (ej_ix (ej_var (i := 0) (k := .bor [.prm]) rfl (pv 0)) ej_int)) (ej_var (i := 2) (k := .bor [.prm]) rfl (pv 2))) (aj_cons (ej_ix (ej_ix (ej_var (i := 1) (k := .bor [.prm]) rfl (pv 1)) (ej_ix (ej_var (i := 0) (k := .bor [.prm]) rfl (pv 0)) ej_int)) (ej_var (i := 2) (k := .bor [.prm]) rfl (pv 2))) aj_nil)) ⟨by decide, by decide, rfl, by decide, by decide, by decide, by decide, by decide, by decide, by decide⟩)))
(bj_weak bj_nil))
(bj_one (sj_ret (ej_callC (rs := []) (c_term_along c) rfl (hr.mono (by decide)) takes_c (aj_cons (ej_ix (ej_var (i := 1) (k := .bor [.prm]) rfl (pv 1)) (ej_ix (ej_var (i := 0) (k := .bor [.prm]) rfl (pv 0)) ej_int)) (aj_cons (ej_ix (ej_var (i := 1) (k := .bor [.prm]) rfl (pv 1)) (ej_ix (ej_var (i := 0) (k := .bor [.prm]) rfl (pv 0)) ej_int)) (aj_cons (ej_var (i := 2) (k := .bor [.prm]) rfl (pv 2)) aj_nil))) ⟨by decide, by decide, rfl, by decide, by decide, by decide, by decide, by decide, by decide, by decide⟩))))))
theorem sc_drives_of : FnScope ["row"] ["row"] (defScope (top 16)) := ⟨rfl, rfl, rfl, by decide +kernel, rfl, by decide +kernel, by decide +kernel⟩
theorem c_drives_of (c : Faz fa fn cs K mg) : Fnc P w K mg base "drives_of" 1 1 [] true d_drives_of :=
  fnc_of c.toFax 24 24 (Γ' := ctxIo 1 []) rfl rfl sc_drives_of rfl rfl (by decide) (by decide) (by decide) (fun _ _ _ _ _ _ us hl => match us, hl with | [_], _ => rfl) fun cdv A outer s H E hr =>
  (bj_cons (sj_if (Γ' := [some (.bor [.prm])]) (tj_eq (hu64 hr) (ej_ix (ej_var (i := 0) (k := .bor [.prm]) rfl (pv 0)) ej_int) ej_str)
(bj_one (sj_ret (ej_lst aj_nil)))
(bj_weak bj_nil))
(bj_cons (sj_if (Γ' := [some (.bor [.prm])]) (tj_eq (hu64 hr) (ej_ix (ej_var (i := 0) (k := .bor [.prm]) rfl (pv 0)) ej_int) ej_str)
(bj_one (sj_ret (ej_lst (aj_cons (ej_flat (ej_ix (ej_var (i := 0) (k := .bor [.prm]) rfl (pv 0)) ej_int)) (aj_cons (ej_flat (ej_ix (ej_var (i := 0) (k := .bor [.prm]) rfl (pv 0)) ej_int)) aj_nil)))))
(bj_weak bj_nil))
(bj_one (sj_ret (ej_lst (aj_cons (ej_flat (ej_ix (ej_var (i := 0) (k := .bor [.prm]) rfl (pv 0)) ej_int)) aj_nil))))))
theorem sc_may_stand : FnScope ["row", "stands", "shaft"] ["row", "stands"] (defScope (top 17)) := ⟨rfl, rfl, rfl, by decide +kernel, rfl, by decide +kernel, by decide +kernel⟩
theorem c_may_stand (c : Faz fa fn cs K mg) : Fnc P w K mg base "may_stand" 2 2 [] true d_may_stand :=
  fnc_of c.toFax 25 25 (Γ' := ctxIo 3 []) rfl rfl sc_may_stand rfl rfl (by decide) (by decide) (by decide) (fun _ _ _ _ _ _ us hl => match us, hl with | [_, _], _ => rfl) fun cdv A outer s H E hr =>
  (bj_one (sj_ret (ej_all rfl (c.free 41 rfl) (aj_cons (ej_lc (own := [("shaft", 2)]) (T := .nm 2) (vr := []) (Γ' := [some (.bor [.prm]), some (.bor [.prm]), some (.bor [.tmp 0])]) rfl sc_may_stand.nd (ij_list (ej_callC (rs := []) (c_drives_of c) rfl (hr.mono (by decide)) takes_c (aj_cons (ej_var (i := 0) (k := .bor [.prm]) rfl (pv 0)) aj_nil) ⟨by decide, by decide, rfl, by decide, by decide, by decide, by decide, by decide, by decide, by decide⟩)) (blkOk_by (N := ["row", "stands", "shaft"]) (sc := defScope (top 17)) (by decide +kernel)) (fun _ _ _ _ _ => (pg_name sc_may_stand.nd rfl (.inl rfl))) (fun _ _ _ _ _ => ptj_nil) (fun _ _ _ _ _ => (ej_inD (hu1 hr) (ej_var (i := 2) (k := .bor [.tmp 0]) rfl (pv 2)) (ej_var (i := 1) (k := .bor [.prm]) rfl (pv 1)))) ⟨by decide, by decide, by decide, by decide, by decide, by decide, by decide, by decide⟩) aj_nil))))
theorem sc_order_of : FnScope ["machine", "stands", "more", "some", "shaft"] ["machine"] (defScope (top 18)) := ⟨rfl, rfl, rfl, by decide +kernel, rfl, by decide +kernel, by decide +kernel⟩
theorem c_order_of (c : Faz fa fn cs K mg) : Fnc P w K mg base "order_of" 3 1 [] true d_order_of :=
  fnc_of c.toFax 26 26 (Γ' := ctxIo 5 []) rfl rfl sc_order_of rfl rfl (by decide) (by decide) (by decide) (fun _ _ _ _ _ _ us hl => match us, hl with | [_], _ => rfl) fun cdv A outer s H E hr =>
  (bj_cons (sj_weak (Γ2 := [some (.bor [.prm]), some (.own), none, none, none]) (sj_set (i := 1) sc_order_of.nd rfl ej_dnewK))
(bj_cons (sj_weak (Γ2 := [some (.bor [.prm]), some (.own), some (.own), none, none]) (sj_set (i := 2) sc_order_of.nd rfl ej_bl))
(bj_cons (sj_pre (Γ1 := [some (.bor [.prm]), some (.own), some (.own), none, none]) (sj_while passes_c (tj_truth (ej_var (i := 2) (k := .own) rfl (pv 2)))
(bj_weak (bj_cons (sj_weak (Γ2 := [some (.bor [.prm]), some (.own), some (.own), some (.own), none]) (sj_setLc (own := [("shaft", 4)]) (T := .nm 4) (vr := []) (Γ' := [some (.bor [.prm]), some (.own), some (.own), none, some (.bor [])]) rfl sc_order_of.nd rfl (ij_range1 (c.free 35 rfl) (aj_cons (ej_len (c.free 32 rfl) (aj_cons (ej_var (i := 0) (k := .bor [.prm]) rfl (pv 0)) aj_nil)) aj_nil)) (blkOk_by (N := ["machine", "stands", "more", "some", "shaft"]) (sc := defScope (top 18)) (by decide +kernel)) (fun _ _ _ _ _ => (pg_name sc_order_of.nd rfl (.inl rfl))) (fun _ _ _ _ _ => (ptj_one (tj_of_w (wj_and (tj_notinD (hu1 hr) (ej_var (i := 4) (k := .bor []) rfl (pv 4)) (ej_var (i := 1) (k := .own) rfl (pv 1))) (wj_and1 (tj_truth (ej_callC (rs := []) (c_may_stand c) rfl (hr.mono (by decide)) takesN (aj_cons (ej_ix (ej_var (i := 0) (k := .bor [.prm]) rfl (pv 0)) (ej_var (i := 4) (k := .bor []) rfl (pv 4))) (aj_cons (ej_var (i := 1) (k := .own) rfl (pv 1)) aj_nil)) ⟨by decide, by decide, rfl, by decide, by decide, by decide, by decide, by decide, by decide, by decide⟩))))))) (fun _ _ _ _ _ => (ej_flat (ej_var (i := 4) (k := .bor []) rfl (pv 4)))) ⟨by decide, by decide, by decide, by decide, by decide, by decide, by decide, by decide⟩))
(bj_cons (sj_weak (Γ2 := [some (.bor [.prm]), some (.own), some (.own), some (.own), none]) (sj_set (i := 2) sc_order_of.nd rfl (ej_ne (hu64 hr) (ej_var (i := 3) (k := .own) rfl (pv 3)) (ej_lst aj_nil))))
(bj_one (sj_if (Γ' := [some (.bor [.prm]), some (.own), some (.own), some (.own), none]) (tj_truth (ej_var (i := 2) (k := .own) rfl (pv 2)))
(bj_weak (bj_one (sj_dput (r := 1) (hu1 hr) (pv 1) ej_bl (ej_ix (ej_var (i := 3) (k := .own) rfl (pv 3)) ej_int))))
(bj_weak bj_nil))))))))
(bj_one (sj_ret (ej_listKeys rfl (c.free 37 rfl) (ej_var (i := 1) (k := .own) rfl (pv 1))))))))
theorem sc_series_of : FnScope ["machine", "many", "order", "found", "k", "shaft", "row"] ["machine", "many"] (defScope (top 25)) := ⟨rfl, rfl, rfl, by decide +kernel, rfl, by decide +kernel, by decide +kernel⟩
theorem c_series_of (c : Faz fa fn cs K mg) : Fnc P w K mg base "series_of" 6 2 [] true d_series_of :=
  fnc_of c.toFax 27 27 (Γ' := ctxIo 7 []) rfl rfl sc_series_of rfl rfl (by decide) (by decide) (by decide) (fun _ _ _ _ _ _ us hl => match us, hl with | [_, _], _ => rfl) fun cdv A outer s H E hr =>
  (bj_cons (sj_weak (Γ2 := [some (.bor [.prm]), some (.bor [.prm]), some (.own), none, none, none, none]) (sj_set (i := 2) sc_series_of.nd rfl (ej_callC (rs := []) (c_order_of c) rfl (hr.mono (by decide)) takes_c (aj_cons (ej_var (i := 0) (k := .bor [.prm]) rfl (pv 0)) aj_nil) ⟨by decide, by decide, rfl, by decide, by decide, by decide, by decide, by decide, by decide, by decide⟩)))
(bj_cons (sj_weak (Γ2 := [some (.bor [.prm]), some (.bor [.prm]), some (.own), some (.own), none, none, none]) (sj_setLc (own := [("row", 6)]) (T := .nm 6) (vr := []) (Γ' := [some (.bor [.prm]), some (.bor [.prm]), some (.own), none, none, none, some (.bor [.prm])]) rfl sc_series_of.nd rfl (ij_list (ej_var (i := 0) (k := .bor [.prm]) rfl (pv 0))) (blkOk_by (N := ["machine", "many", "order", "found", "k", "shaft", "row"]) (sc := defScope (top 25)) (by decide +kernel)) (fun _ _ _ _ _ => (pg_name sc_series_of.nd rfl (.inl rfl))) (fun _ _ _ _ _ => ptj_nil) (fun _ _ _ _ _ => (ej_lst (aj_cons (ej_flat (ej_ix (ej_var (i := 6) (k := .bor [.prm]) rfl (pv 6)) ej_int)) aj_nil))) ⟨by decide, by decide, by decide, by decide, by decide, by decide, by decide, by decide⟩))
(bj_cons (sj_pre (Γ1 := [some (.bor [.prm]), some (.bor [.prm]), some (.own), some (.own), none, none, none]) (sj_for (T := .nm 4) (Γ' := [some (.bor [.prm]), some (.bor [.prm]), some (.own), some (.own), none, none, none]) passes_c rfl (ij_range2 (c.free 35 rfl) (aj_cons ej_int (aj_cons (ej_flat (ej_var (i := 1) (k := .bor [.prm]) rfl (pv 1))) aj_nil))) (pg_name sc_series_of.nd rfl (.inl rfl))
(bj_weak (bj_one (sj_pre (Γ1 := [some (.bor [.prm]), some (.bor [.prm]), some (.own), some (.own), some (.bor []), none, none]) (sj_for (T := .nm 5) (Γ' := [some (.bor [.prm]), some (.bor [.prm]), some (.own), some (.own), some (.bor []), none, none]) passes_c rfl (ij_list (ej_var (i := 2) (k := .own) rfl (pv 2))) (pg_name sc_series_of.nd rfl (.inl rfl))
(bj_weak (bj_one (sj_expr (ej_appendIx (r := 3) (pv 3) (ej_var (i := 5) (k := .bor [.slt 2]) rfl (pv 5)) (aj_cons (ej_callC (rs := []) (c_further_term c) rfl (hr.mono (by decide)) takes_c (aj_cons (ej_ix (ej_var (i := 0) (k := .bor [.prm]) rfl (pv 0)) (ej_var (i := 5) (k := .bor [.slt 2]) rfl (pv 5))) (aj_cons (ej_var (i := 3) (k := .own) rfl (pv 3)) (aj_cons (ej_var (i := 4) (k := .bor []) rfl (pv 4)) aj_nil))) ⟨by decide, by decide, rfl, by decide, by decide, by decide, by decide, by decide, by decide, by decide⟩) aj_nil)))))))))))
(bj_one (sj_retV (i := 3) (pv 3) rfl)))))
theorem sc_worths_of : FnScope ["machine", "shaft", "many", "found", "factor", "k", "term"] ["machine", "shaft", "many"] (defScope (top 29)) := ⟨rfl, rfl, rfl, by decide +kernel, rfl, by decide +kernel, by decide +kernel⟩
theorem c_worths_of (c : Faz fa fn cs K mg) : Fnc P w K mg base "worths_of" 7 3 [] true d_worths_of :=
  fnc_of c.toFax 28 28 (Γ' := ctxIo 7 []) rfl rfl sc_worths_of rfl rfl (by decide) (by decide) (by decide) (fun _ _ _ _ _ _ us hl => match us, hl with | [_, _, _], _ => rfl) fun cdv A outer s H E hr =>
  (bj_cons (sj_weak (Γ2 := [some (.bor [.prm]), some (.bor [.prm]), some (.bor [.prm]), some (.own), none, none, none]) (sj_set (i := 3) sc_worths_of.nd rfl (ej_lst aj_nil)))
(bj_cons (sj_weak (Γ2 := [some (.bor [.prm]), some (.bor [.prm]), some (.bor [.prm]), some (.own), some (.own), none, none]) (sj_set (i := 4) sc_worths_of.nd rfl ej_int))
(bj_cons (sj_pre (Γ1 := [some (.bor [.prm]), some (.bor [.prm]), some (.bor [.prm]), some (.own), some (.own), none, none]) (sj_for (T := .tp [5, 6]) (Γ' := [some (.bor [.prm]), some (.bor [.prm]), some (.bor [.prm]), some (.own), some (.own), none, none]) passes_c rfl (ij_enum (c.free 38 rfl) (aj_cons (ej_ix (ej_callC (rs := []) (c_series_of c) rfl (hr.mono (by decide)) takes_c (aj_cons (ej_var (i := 0) (k := .bor [.prm]) rfl (pv 0)) (aj_cons (ej_var (i := 2) (k := .bor [.prm]) rfl (pv 2)) aj_nil)) ⟨by decide, by decide, rfl, by decide, by decide, by decide, by decide, by decide, by decide, by decide⟩) (ej_var (i := 1) (k := .bor [.prm]) rfl (pv 1))) aj_nil)) (pg_tup rfl (pgs_cons (pg_name sc_worths_of.nd rfl (.inl rfl)) (pgs_cons (pg_name sc_worths_of.nd rfl (.inl rfl)) pgs_nil)))
(bj_weak (bj_cons (sj_weak (Γ2 := [some (.bor [.prm]), some (.bor [.prm]), some (.bor [.prm]), some (.own), some (.own), some (.bor [.tmp 0]), some (.bor [.tmp 0])]) (sj_set (i := 4) sc_worths_of.nd rfl (ej_mul (ej_var (i := 4) (k := .own) rfl (pv 4)) (ej_max2 rfl (c.free 43 rfl) (aj_cons ej_int (aj_cons (ej_var (i := 5) (k := .bor [.tmp 0]) rfl (pv 5)) aj_nil))))))
(bj_one (sj_expr (ej_append (r := 3) (pv 3) (aj_cons (ej_callC (rs := []) (c_times c) rfl (hr.mono (by decide)) takes_c (aj_cons (ej_callC (rs := []) (c_whole c) rfl (hr.mono (by decide)) takes_c (aj_cons (ej_var (i := 4) (k := .own) rfl (pv 4)) aj_nil) ⟨by decide, by decide, rfl, by decide, by decide, by decide, by decide, by decide, by decide, by decide⟩) (aj_cons (ej_var (i := 6) (k := .bor [.tmp 0]) rfl (pv 6)) aj_nil)) ⟨by decide, by decide, rfl, by decide, by decide, by decide, by decide, by decide, by decide, by decide⟩) aj_nil))))))))
(bj_one (sj_retV (i := 3) (pv 3) rfl)))))
theorem sc_square_of : FnScope ["machine", "shaft", "r"] ["machine", "shaft", "r"] (defScope (top 31)) := ⟨rfl, rfl, rfl, by decide +kernel, rfl, by decide +kernel, by decide +kernel⟩
theorem c_square_of (c : Faz fa fn cs K mg) : Fnc P w K mg base "square_of" 8 3 [] true d_square_of :=
  fnc_of c.toFax 29 29 (Γ' := ctxIo 3 []) rfl rfl sc_square_of rfl rfl (by decide) (by decide) (by decide) (fun _ _ _ _ _ _ us hl => match us, hl with | [_, _, _], _ => rfl) fun cdv A outer s H E hr =>
  (bj_one (sj_ret (ej_callC (rs := []) (c_square_from c) rfl (hr.mono (by decide)) takes_c (aj_cons (ej_callC (rs := []) (c_worths_of c) rfl (hr.mono (by decide)) takes_c (aj_cons (ej_var (i := 0) (k := .bor [.prm]) rfl (pv 0)) (aj_cons (ej_var (i := 1) (k := .bor [.prm]) rfl (pv 1)) (aj_cons (ej_add (ej_mul ej_int (ej_var (i := 2) (k := .bor [.prm]) rfl (pv 2))) ej_int) aj_nil))) ⟨by decide, by decide, rfl, by decide, by decide, by decide, by decide, by decide, by decide, by decide⟩) (aj_cons (ej_var (i := 2) (k := .bor [.prm]) rfl (pv 2)) aj_nil)) ⟨by decide, by decide, rfl, by decide, by decide, by decide, by decide, by decide, by decide, by decide⟩)))
theorem sc_fewest : FnScope ["machine", "shaft", "found"] ["machine", "shaft"] (defScope (top 35)) := ⟨rfl, rfl, rfl, by decide +kernel, rfl, by decide +kernel, by decide +kernel⟩
theorem c_fewest (c : Faz fa fn cs K mg) : Fnc P w K mg base "fewest" 9 2 [] true d_fewest :=
  fnc_of c.toFax 30 30 (Γ' := ctxIo 3 []) rfl rfl sc_fewest rfl rfl (by decide) (by decide) (by decide) (fun _ _ _ _ _ _ us hl => match us, hl with | [_, _], _ => rfl) fun cdv A outer s H E hr =>
  (bj_cons (sj_expr (ej_callC (rs := []) (c_look_even c) rfl (hr.mono (by decide)) takes_c (aj_cons (ej_var (i := 0) (k := .bor [.prm]) rfl (pv 0)) aj_nil) ⟨by decide, by decide, rfl, by decide, by decide, by decide, by decide, by decide, by decide, by decide⟩))
(bj_cons (sj_weak (Γ2 := [some (.bor [.prm]), some (.bor [.prm]), some (.own)]) (sj_set (i := 2) sc_fewest.nd rfl (ej_len (c.free 32 rfl) (aj_cons (ej_callC (rs := []) (c_discs_of c) rfl (hr.mono (by decide)) takes_c (aj_cons (ej_var (i := 0) (k := .bor [.prm]) rfl (pv 0)) aj_nil) ⟨by decide, by decide, rfl, by decide, by decide, by decide, by decide, by decide, by decide, by decide⟩) aj_nil))))
(bj_cons (sj_pre (Γ1 := [some (.bor [.prm]), some (.bor [.prm]), some (.own)]) (sj_while passes_c (tj_eq (hu64 hr) (ej_callC (rs := []) (c_determinant c) rfl (hr.mono (by decide)) takes_c (aj_cons (ej_callC (rs := []) (c_square_of c) rfl (hr.mono (by decide)) takes_c (aj_cons (ej_var (i := 0) (k := .bor [.prm]) rfl (pv 0)) (aj_cons (ej_var (i := 1) (k := .bor [.prm]) rfl (pv 1)) (aj_cons (ej_var (i := 2) (k := .own) rfl (pv 2)) aj_nil))) ⟨by decide, by decide, rfl, by decide, by decide, by decide, by decide, by decide, by decide, by decide⟩) aj_nil) ⟨by decide, by decide, rfl, by decide, by decide, by decide, by decide, by decide, by decide, by decide⟩) (ej_cst (c.cst 0 rfl)))
(bj_weak (bj_one (sj_weak (Γ2 := [some (.bor [.prm]), some (.bor [.prm]), some (.own)]) (sj_augSub (i := 2) sc_fewest.nd rfl rfl ej_int))))))
(bj_one (sj_ret (ej_flat (ej_var (i := 2) (k := .own) rfl (pv 2))))))))
theorem sc_law : FnScope ["_law_script", "_law_at", "_law_bag_here", "_law_machine", "_law_shaft", "_law_due", "_law_other", "_law_far"] ["_law_script"] (defScope (top 45)) := ⟨rfl, rfl, rfl, by decide +kernel, rfl, by decide +kernel, by decide +kernel⟩
theorem l_law (c : Faz fa fn cs K mg) {f : Addr} (hm : mg "law" = some (.ref f)) : ∃ fd : FuncData, (∀ (s : Shared) (u : Value), BindsTo s fd ⟨[u], []⟩ [("_law_script", u)]) ∧ ∀ base : Heap, FnOk P w K mg base (L2N.CX P w) 10 f fd ["_law_script"] (spD K (clM mg) 1 [] [] true d_law) :=
  law_of c.toFax 31 31 (Γ' := ctxIo 8 []) hm rfl rfl sc_law rfl (by decide) (by decide) (fun _ _ _ _ _ _ us hl => match us, hl with | [_], _ => rfl) fun base cdv A outer s H E hr =>
  (bj_cons (sj_pre (Γ1 := [some (.bor [.prm]), none, none, none, none, none, none, none]) (sj_for (T := .nm 1) (Γ' := [some (.bor [.prm]), none, none, none, none, none, none, none]) passes_c rfl (ij_range1 (c.free 35 rfl) (aj_cons (ej_max2 rfl (c.free 43 rfl) (aj_cons ej_int (aj_cons (ej_min2 rfl (c.free 36 rfl) (aj_cons ej_int (aj_cons (ej_len (c.free 32 rfl) (aj_cons (ej_var (i := 0) (k := .bor [.prm]) rfl (pv 0)) aj_nil)) aj_nil))) aj_nil))) aj_nil)) (pg_name sc_law.nd rfl (.inl rfl))
(bj_weak (bj_cons (sj_weak (Γ2 := [some (.bor [.prm]), some (.bor []), some (.own), none, none, none, none, none]) (sj_set (i := 2) sc_law.nd rfl (ej_callC (rs := []) (c__law_bag c) rfl (hr.mono (by decide)) takes_c (aj_cons (ej_var (i := 0) (k := .bor [.prm]) rfl (pv 0)) (aj_cons (ej_var (i := 1) (k := .bor []) rfl (pv 1)) aj_nil)) ⟨by decide, by decide, rfl, by decide, by decide, by decide, by decide, by decide, by decide, by decide⟩)))
(bj_one (sj_pre (Γ1 := [some (.bor [.prm]), some (.bor []), some (.own), none, none, none, none, none]) (sj_for (T := .tp [3, 4, 5]) (Γ' := [some (.bor [.prm]), some (.bor []), some (.own), none, none, none, none, none]) passes_c rfl (ij_list (ej_lst (aj_cons (ej_callC (rs := [2]) (c__law_chain c) rfl (hr.mono (by decide)) takes_c (aj_slot (r := 2) rfl (pv 2) aj_nil) ⟨by decide, by decide, rfl, by decide, by decide, by decide, by decide, by decide, by decide, by decide⟩) (aj_cons (ej_callC (rs := [2]) (c__law_growing c) rfl (hr.mono (by decide)) takes_c (aj_slot (r := 2) rfl (pv 2) aj_nil) ⟨by decide, by decide, rfl, by decide, by decide, by decide, by decide, by decide, by decide, by decide⟩) (aj_cons (ej_callC (rs := [2]) (c__law_circling c) rfl (hr.mono (by decide)) takes_c (aj_slot (r := 2) rfl (pv 2) aj_nil) ⟨by decide, by decide, rfl, by decide, by decide, by decide, by decide, by decide, by decide, by decide⟩) aj_nil))))) (pg_tup rfl (pgs_cons (pg_name sc_law.nd rfl (.inl rfl)) (pgs_cons (pg_name sc_law.nd rfl (.inl rfl)) (pgs_cons (pg_name sc_law.nd rfl (.inl rfl)) pgs_nil))))
(bj_weak (bj_cons (sj_if (Γ' := [some (.bor [.prm]), some (.bor []), some (.own), some (.bor [.tmp 1]), some (.bor [.tmp 1]), some (.bor [.tmp 1]), none, none]) (tj_ne (hu64 hr) (ej_callC (rs := []) (c_fewest c) rfl (hr.mono (by decide)) takes_c (aj_cons (ej_listOf (c.free 37 rfl) (aj_cons (ej_var (i := 3) (k := .bor [.tmp 1]) rfl (pv 3)) aj_nil)) (aj_cons (ej_var (i := 4) (k := .bor [.tmp 1]) rfl (pv 4)) aj_nil)) ⟨by decide, by decide, rfl, by decide, by decide, by decide, by decide, by decide, by decide, by decide⟩) (ej_var (i := 5) (k := .bor [.tmp 1]) rfl (pv 5)))
(bj_one (sj_ret ej_bl))
(bj_weak bj_nil))
(bj_cons (sj_weak (Γ2 := [some (.bor [.prm]), some (.bor []), some (.own), some (.bor [.tmp 1]), some (.bor [.tmp 1]), some (.bor [.tmp 1]), some (.own), some (.own)]) (sj_unpT (is := [6, 7]) (ej_callC (rs := [2]) (c__law_renamed c) rfl (hr.mono (by decide)) takes_c (aj_slot (r := 2) rfl (pv 2) (aj_cons (ej_var (i := 3) (k := .bor [.tmp 1]) rfl (pv 3)) (aj_cons (ej_var (i := 4) (k := .bor [.tmp 1]) rfl (pv 4)) aj_nil))) ⟨by decide, by decide, rfl, by decide, by decide, by decide, by decide, by decide, by decide, by decide⟩) (pg_tup rfl (pgs_cons (pg_name sc_law.nd rfl (.inl rfl)) (pgs_cons (pg_name sc_law.nd rfl (.inl rfl)) pgs_nil)))))
(bj_one (sj_if (Γ' := [some (.bor [.prm]), some (.bor []), some (.own), some (.bor [.tmp 1]), some (.bor [.tmp 1]), some (.bor [.tmp 1]), some (.own), some (.own)]) (tj_ne (hu64 hr) (ej_callC (rs := []) (c_fewest c) rfl (hr.mono (by decide)) takes_c (aj_cons (ej_listOf (c.free 37 rfl) (aj_cons (ej_var (i := 6) (k := .own) rfl (pv 6)) aj_nil)) (aj_cons (ej_var (i := 7) (k := .own) rfl (pv 7)) aj_nil)) ⟨by decide, by decide, rfl, by decide, by decide, by decide, by decide, by decide, by decide, by decide⟩) (ej_var (i := 5) (k := .bor [.tmp 1]) rfl (pv 5)))
(bj_one (sj_ret ej_bl))
(bj_weak bj_nil)))))))))))))
(bj_one (sj_ret ej_bl)))
end Law

namespace Law
open PySem PySem.Spec PySem.SeqAt PyProof.Rows L2 Ow
end Law
open PySem PySem.W PySem.Calls PyProof.Rows
theorem PySem.Challenge.cw_rolldiscs_k39_fewest_known_holds : PySem.Challenge.rw_rolldiscs_k39_fewest_known.Holds := by
  w_on; o_law
  refine HandSHeadRun.head_any (r := Law.R) (q := view Law.R.prog [45]) (H := Law.hk) (ob := Law.ob) (M := 15000) (loose := Law.loose) (d := HandSHeadRun.topDef Law.R.prog 45) (kwd := []) Law.ob_eq
    (by kernel_rfl) (fun s => by kernel_rfl) Law.run (by kernel_rfl) (by kernel_rfl) (by kernel_rfl) (by rfl) (by first | assumption | decide +kernel) (by decide +kernel) ⟨rfl, rfl, rfl, rfl, rfl, by decide +kernel⟩ ?hw ?hc
  case hw => w_witness2
  case hc =>
    refine Ow.walk_ow (l := PySem.Challenge.rw_rolldiscs_k39_fewest_known) (n := 63) (k := 10) (x := "_law_script") (own := true) (Fd := Law.d_law) rfl (by decide) (by kernel_rfl) ⟨rfl, by decide, by decide⟩ ?F Law.law_holds
    intro w mg fa h Y G hmg0
    obtain ⟨K, KX, c⟩ := Y
    have hmg : mg ("law" : PySem.Str) = some (.ref fa) := by
      have e : (HandSHeadRun.topDef Law.R.prog 45).name = ("law" : PySem.Str) := by kernel_rfl
      rw [← e]
      exact hmg0
    obtain ⟨fd, h1, h2⟩ := Law.l_law (P := Law.R.prog) (w := w) (Ow.faz_of KX G c) hmg
    exact ⟨K, fd, KX, h1, fun base _ _ => h2 base⟩
