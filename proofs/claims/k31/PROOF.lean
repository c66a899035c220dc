import PyProof.Rows.All
import Wide.All
import OpenK.AllK
import Wide.FinOn
import HandS.ForMost
import HandS.ForExc
import HandS.Wide
import HandS.IsInst
import HandS.Deep
import HandS.TupAny
import PyProof.EqAt
import PyProof.Rows.CountFlat
import HandS.ExcCtx
import HandS.HotCalls
import HandS.ExcIs
import HandS.ExcField
import HandS.Lambda
import KE.KExcIs
import HandS.Defaults
import HandS.Head0
import HandS.Head1
import HandS.Head2
import HandS.HeadEnd
import HandS.HeadHook1
import HandS.HeadHook2
import HandS.HeadHook3
import HandS.HeadHook4
import HandS.ExcInit
import HandS.EndBits
import HandS.Zip
import HandS.TupMul
import PySem.Challenge.RW_rolldiscs_k31_products_in_order
import HandS.Conv
import HandS.Style
import HandS.SortInts
import HandS.More
import HandS.TryOnly
import HandS.SortRule
import HandS.TupSets
import HandS.SortKw
import KE.KSortTupAny
import KE.GoesNew
import KE.GoesMore
import KE.GoesEnum
import PyProof.AssignAttr
import HandS.Hot
import PyProof.ConsumeS
import PyProof.Rows.SetFrom
import HandS.SetFor
import HandS.Strs
import HandS.Text
import HandS.Codes
import HandS.Iter
import KE.GoesComp
import KE.KAsSuite
import PyProof.ReprRoads
import HandS.Flow
import HandS.WordsDict
import KE.KTupSum
import KE.KEqDict
import HandS.Sort
import KE.SortCalls
import KE.KDictKeyed
import KE.DataMinMax
import HandS.EndTab
import KE.SortKeyHeap
import KE.KLam
import KE.KSortKey
import KE.SortData
import PyProof.P3Eq
set_option Elab.async false
set_option linter.all false
set_option maxRecDepth 100000
set_option maxHeartbeats 0
namespace Ow
open PySem PySem.Spec PyProof.Rows L2
abbrev KeyU := Key ⊕ List Int
inductive D where
 | non | bl (b : Bool) | int (i : Int) | str (x : Str) | tup (ds : List D) | lst (ds : List D)
 | dK (kvs : List (Key × D)) | dT (kvs : List (List Int × D)) | ins (c : Str) (fs : List (Str × D))
 | fzl (ds : List D) | exn (c : Str) (p : D) | fzd (ks : List KeyU) (ds : List D)
instance : Inhabited D := ⟨.non⟩
inductive Lab where
 | out | prm | fro | slt (i : Nat) | tmp (n : Nat)
 deriving DecidableEq
inductive Kd where
 | own | bor (R : List Lab) | spn (R : List Lab) | exc (R : List Lab)
abbrev Ctx := List (Option Kd)
abbrev Labs := Addr → Lab
def pfOf (c : Str) : Option Str := if c = "Ring" then some "ring" else if c = "Stopped" then some "shaft" else none
structure CE where
 cl : Str → Addr → Prop
 ex : Str → Addr → Option Addr → Prop
structure TK (H H' : Hp) : Prop where
 tup : ∀ b xs, H b = some (.tup xs) → H' b = some (.tup xs)
 frz : ∀ b o u, H b = some (.frz o u) → H' b = some (.frz o u)
theorem TK.refl (H : Hp) : TK H H := ⟨fun _ _ h => h, fun _ _ _ h => h⟩
theorem TK.trans {H H1 H2 : Hp} (a : TK H H1) (b : TK H1 H2) : TK H H2 := ⟨fun x xs h => b.tup x xs (a.tup x xs h), fun x o u h => b.frz x o u (a.frz x o u h)⟩
theorem TK.sqt {K : PySem.W.Frag} {H H' : Hp} (t : TK H H') {a : Addr} {xs : List V} (h : SqT K H a xs) : SqT K H' a xs := by
 rcases h with (h | ⟨o, h⟩) | h
 · exact .inl (.inl (t.tup _ _ h))
 · exact .inl (.inr ⟨o, t.frz _ _ _ h⟩)
 · exact .inr h
theorem TK.new {H : Hp} {p : Addr} {o : HO} (h : H p = none) : TK H (upd H p o) :=
 ⟨fun b xs e => by rw [upd_ne (ne_of_none e h)]; exact e, fun b ob u e => by rw [upd_ne (ne_of_none e h)]; exact e⟩
def isMut : HO → Prop
 | .tup _ => False
 | .frz _ _ => False
 | .tbl _ => False
 | _ => True
theorem TK.mut {H : Hp} {p : Addr} {u o : HO} (h : H p = some u) (m : isMut u) : TK H (upd H p o) :=
 ⟨fun b xs e => by
  by_cases q : b = p
  · subst q; rw [h] at e; cases e; exact m.elim
  · rw [upd_ne q]; exact e, fun b ob v e => by
  by_cases q : b = p
  · subst q; rw [h] at e; cases e; exact m.elim
  · rw [upd_ne q]; exact e⟩
def FzL (K : PySem.W.Frag) (H : Hp) (a : Addr) (vs : List V) : Prop := (∃ o, H a = some (.frz o (.lst vs))) ∨ ∃ (o : Obj) (its : Array Value) (n : Nat), K.lookup a = some o ∧ o.cls = .type "list" ∧ o.dict = none ∧ o.data = .seq its n ∧ its.size ≤ sizeLine ∧ Vals vs its.toList
theorem FzL.sql {K : PySem.W.Frag} {H : Hp} {a : Addr} {vs : List V} (h : FzL K H a vs) : SqL K H a vs := h.elim (fun ⟨o, h⟩ => .inl (.inr ⟨o, h⟩)) .inr
theorem FzL.tk {K : PySem.W.Frag} {H H' : Hp} {a : Addr} {vs : List V} (h : FzL K H a vs) (t : TK H H') : FzL K H' a vs := h.elim (fun ⟨o, h⟩ => .inl ⟨o, t.frz _ _ _ h⟩) .inr
def atO (a : Addr) (o : Obj) : Heap → Prop := fun h => h.get? a = some o
structure DxOk (a : Addr) (o : Obj) (us : List (List Int × Addr × Value)) : Prop where
 nm : (a == sysModules) = false
 ex : o.ExactDict
 es : ∃ es ep, o.data = .dict es ep ∧ ∀ (P : Program) (w : World), es.toList = us.map (entryOfKey (tupleKind (intKind P w)))
 nd : (us.map (·.1)).Nodup
 sz : us.length ≤ sizeLine
section
variable (K : PySem.W.Frag) (cl : CE) (H : Hp)
mutual
inductive Rp : V → D → List Addr → Prop
 | non : Rp .non .non []
 | bl (b : Bool) : Rp (.bl b) (.bl b) []
 | int (i : Int) : Rp (.int i) (.int i) []
 | str (x : Str) : Rp (.str x) (.str x) []
 | tup {a : Addr} {vs : List V} {ds : List D} {fp : List Addr} (h : SqT K H a vs) (r : RpL vs ds fp) : Rp (.ref a) (.tup ds) fp
 | lst {a : Addr} {vs : List V} {ds : List D} {fp : List Addr} (h : H a = some (.lst vs)) (r : RpL vs ds fp) : Rp (.ref a) (.lst ds) (a :: fp)
 | lsf {a : Addr} {vs : List V} {ds : List D} {fp : List Addr} (h : FzL K H a vs) (r : RpL vs ds fp) : Rp (.ref a) (.fzl ds) fp
 | dK {a : Addr} {kvs : List (Key × V)} {kds : List (Key × D)} {fp : List Addr} (h : H a = some (.dK kvs)) (k : kvs.map (·.1) = kds.map (·.1)) (r : RpL (kvs.map (·.2)) (kds.map (·.2)) fp) : Rp (.ref a) (.dK kds) (a :: fp)
 | dT {a : Addr} {o : Obj} {us : List (List Int × Addr × Value)} {vs : List V} {kds : List (List Int × D)} {fp : List Addr} (h : H a = some (.ext (atO a o))) (ok : DxOk a o us) (hk : ∀ u ∈ us, SqT K H u.2.1 (u.1.map V.int)) (k : us.map (·.1) = kds.map (·.1)) (hv : Vals vs (us.map (·.2.2))) (r : RpL vs (kds.map (·.2)) fp) : Rp (.ref a) (.dT kds) (a :: fp)
 | ins {a C dx : Addr} {c : Str} {fs : List (Str × V)} {fds : List (Str × D)} {fp : List Addr} (hc : cl.cl c C) (h : H a = some (.ins C dx fs)) (k : fs.map (·.1) = fds.map (·.1)) (r : RpL (fs.map (·.2)) (fds.map (·.2)) fp) : Rp (.ref a) (.ins c fds) (a :: fp)
 | fzk {a : Addr} {o : Obj} {kvs : List (Key × V)} {ks : List KeyU} {ds : List D} {fp : List Addr} (h : H a = some (.frz o (.dK kvs))) (k : (kvs.map fun kv => (.inl kv.1 : KeyU)) = ks) (r : RpL (kvs.map (·.2)) ds fp) : Rp (.ref a) (.fzd ks ds) fp
 | fzt {a : Addr} {o : Obj} {us : List (List Int × Addr × Value)} {vs : List V} {ks : List KeyU} {ds : List D} {fp : List Addr} (h : H a = some (.frz o (.ext (atO a o)))) (ok : DxOk a o us) (hk : ∀ u ∈ us, SqT K H u.2.1 (u.1.map V.int)) (k : (us.map fun u => (.inr u.1 : KeyU)) = ks) (hv : Vals vs (us.map (·.2.2))) (r : RpL vs ds fp) (hne : us ≠ []) : Rp (.ref a) (.fzd ks ds) fp
inductive RpL : List V → List D → List Addr → Prop
 | nil : RpL [] [] []
 | cons {v : V} {d : D} {f1 : List Addr} {vs : List V} {ds : List D} {f2 : List Addr} (h : Rp v d f1) (r : RpL vs ds f2) : RpL (v :: vs) (d :: ds) (f1 ++ f2)
end
end
section
variable {K : PySem.W.Frag} {cl : CE} {H H' : Hp}
mutual
theorem Rp.ext (tk : TK H H') : ∀ {v : V} {d : D} {fp : List Addr}, Rp K cl H v d fp → (∀ a ∈ fp, H' a = H a) → Rp K cl H' v d fp
 | _, _, _, .non, _ => .non
 | _, _, _, .bl b, _ => .bl b
 | _, _, _, .int i, _ => .int i
 | _, _, _, .str x, _ => .str x
 | _, _, _, .tup h r, e => .tup (tk.sqt h) (RpL.ext tk r e)
 | _, _, _, .lst h r, e => .lst ((e _ List.mem_cons_self).trans h) (RpL.ext tk r fun a ha => e a (List.mem_cons_of_mem _ ha))
 | _, _, _, .lsf h r, e => .lsf (h.tk tk) (RpL.ext tk r e)
 | _, _, _, .dK h k r, e => .dK ((e _ List.mem_cons_self).trans h) k (RpL.ext tk r fun a ha => e a (List.mem_cons_of_mem _ ha))
 | _, _, _, .dT h ok hk k hv r, e => .dT ((e _ List.mem_cons_self).trans h) ok (fun u hu => tk.sqt (hk u hu)) k hv (RpL.ext tk r fun a ha => e a (List.mem_cons_of_mem _ ha))
 | _, _, _, .ins c h k r, e => .ins c ((e _ List.mem_cons_self).trans h) k (RpL.ext tk r fun a ha => e a (List.mem_cons_of_mem _ ha))
 | _, _, _, .fzk h k r, e => .fzk (tk.frz _ _ _ h) k (RpL.ext tk r e)
 | _, _, _, .fzt h ok hk k hv r hne, e => .fzt (tk.frz _ _ _ h) ok (fun u hu => tk.sqt (hk u hu)) k hv (RpL.ext tk r e) hne
theorem RpL.ext (tk : TK H H') : ∀ {vs : List V} {ds : List D} {fp : List Addr}, RpL K cl H vs ds fp → (∀ a ∈ fp, H' a = H a) → RpL K cl H' vs ds fp
 | _, _, _, .nil, _ => .nil
 | _, _, _, .cons h r, e => .cons (Rp.ext tk h fun a ha => e a (List.mem_append_left _ ha)) (RpL.ext tk r fun a ha => e a (List.mem_append_right _ ha))
end
end
mutual
def D.flat : D → Bool
 | .non => true
 | .bl _ => true
 | .int _ => true
 | .str _ => true
 | .tup ds => D.flats ds
 | .lst _ => false
 | .dK _ => false
 | .dT _ => false
 | .ins _ _ => false
 | .fzl _ => false
 | .exn _ _ => false
 | .fzd _ ds => D.flats ds
def D.flats : List D → Bool
 | [] => true
 | d :: ds => d.flat && D.flats ds
end
theorem alloc_head {H : Hp} {b : Addr} {o : HO} (h : H b = some o) (m : isMut o) {fp : List Addr} (r : ∀ x ∈ fp, ∃ o, H x = some o ∧ isMut o) : ∀ x ∈ b :: fp, ∃ o, H x = some o ∧ isMut o := fun x e => by
 rcases List.mem_cons.mp e with q | q
 · exact ⟨o, by rw [q]; exact h, m⟩
 · exact r x q
section
variable {K : PySem.W.Frag} {cl : CE} {H H' : Hp}
mutual
theorem Rp.alloc : ∀ {v : V} {d : D} {fp : List Addr}, Rp K cl H v d fp → ∀ a ∈ fp, ∃ o, H a = some o ∧ isMut o
 | _, _, _, .non, _, h => by simp at h
 | _, _, _, .bl b, _, h => by simp at h
 | _, _, _, .int i, _, h => by simp at h
 | _, _, _, .str x, _, h => by simp at h
 | _, _, _, .tup h r, a, e => RpL.alloc r a e
 | _, _, _, .lst h r, a, e => alloc_head h True.intro (RpL.alloc r) a e
 | _, _, _, .lsf h r, a, e => RpL.alloc r a e
 | _, _, _, .dK h k r, a, e => alloc_head h True.intro (RpL.alloc r) a e
 | _, _, _, .dT h ok hk k hv r, a, e => alloc_head h True.intro (RpL.alloc r) a e
 | _, _, _, .ins c h k r, a, e => alloc_head h True.intro (RpL.alloc r) a e
 | _, _, _, .fzk h k r, a, e => RpL.alloc r a e
 | _, _, _, .fzt h ok hk k hv r hne, a, e => RpL.alloc r a e
theorem RpL.alloc : ∀ {vs : List V} {ds : List D} {fp : List Addr}, RpL K cl H vs ds fp → ∀ a ∈ fp, ∃ o, H a = some o ∧ isMut o
 | _, _, _, .nil, _, h => by simp at h
 | _, _, _, .cons h r, a, e => (List.mem_append.mp e).elim (fun q => Rp.alloc h a q) fun q => RpL.alloc r a q
end
mutual
theorem Rp.flat : ∀ {v : V} {d : D} {fp : List Addr}, Rp K cl H v d fp → d.flat = true → fp = []
 | _, _, _, .non, _ => rfl
 | _, _, _, .bl b, _ => rfl
 | _, _, _, .int i, _ => rfl
 | _, _, _, .str x, _ => rfl
 | _, _, _, .tup h r, e => RpL.flat r (by simpa [D.flat] using e)
 | _, _, _, .lst h r, e => by simp [D.flat] at e
 | _, _, _, .lsf h r, e => by simp [D.flat] at e
 | _, _, _, .dK h k r, e => by simp [D.flat] at e
 | _, _, _, .dT h ok hk k hv r, e => by simp [D.flat] at e
 | _, _, _, .ins c h k r, e => by simp [D.flat] at e
 | _, _, _, .fzk h k r, e => RpL.flat r (by simpa [D.flat] using e)
 | _, _, _, .fzt h ok hk k hv r hne, e => RpL.flat r (by simpa [D.flat] using e)
theorem RpL.flat : ∀ {vs : List V} {ds : List D} {fp : List Addr}, RpL K cl H vs ds fp → D.flats ds = true → fp = []
 | _, _, _, .nil, _ => rfl
 | _, _, _, .cons h r, e => by
  simp [D.flats] at e
  rw [Rp.flat h e.1, RpL.flat r e.2]
  rfl
end
mutual
theorem Rp.ce {cl' : CE} (h1 : ∀ c C, cl.cl c C → cl'.cl c C) : ∀ {v : V} {d : D} {fp : List Addr}, Rp K cl H v d fp → Rp K cl' H v d fp
 | _, _, _, .non => .non
 | _, _, _, .bl b => .bl b
 | _, _, _, .int i => .int i
 | _, _, _, .str x => .str x
 | _, _, _, .tup h r => .tup h (RpL.ce h1 r)
 | _, _, _, .lst h r => .lst h (RpL.ce h1 r)
 | _, _, _, .lsf h r => .lsf h (RpL.ce h1 r)
 | _, _, _, .dK h k r => .dK h k (RpL.ce h1 r)
 | _, _, _, .dT h ok hk k hv r => .dT h ok hk k hv (RpL.ce h1 r)
 | _, _, _, .ins c h k r => .ins (h1 _ _ c) h k (RpL.ce h1 r)
 | _, _, _, .fzk h k r => .fzk h k (RpL.ce h1 r)
 | _, _, _, .fzt h ok hk k hv r hne => .fzt h ok hk k hv (RpL.ce h1 r) hne
theorem RpL.ce {cl' : CE} (h1 : ∀ c C, cl.cl c C → cl'.cl c C) : ∀ {vs : List V} {ds : List D} {fp : List Addr}, RpL K cl H vs ds fp → RpL K cl' H vs ds fp
 | _, _, _, .nil => .nil
 | _, _, _, .cons h r => .cons (Rp.ce h1 h) (RpL.ce h1 r)
end
theorem RpL.len : ∀ {vs : List V} {ds : List D} {fp : List Addr}, RpL K cl H vs ds fp → vs.length = ds.length
 | _, _, _, .nil => rfl
 | _, _, _, .cons h r => by simp [RpL.len r]
theorem RpL.get : ∀ {vs : List V} {ds : List D} {fp : List Addr} {i : Nat} {d : D}, RpL K cl H vs ds fp → ds[i]? = some d → ∃ v f, vs[i]? = some v ∧ Rp K cl H v d f ∧ f.Sublist fp
 | _, _, _, _, _, .nil, e => by simp at e
 | _, _, _, 0, _, .cons h r, e => by
  simp at e; subst e
  exact ⟨_, _, rfl, h, List.sublist_append_left _ _⟩
 | _, _, _, i + 1, _, .cons h r, e => by
  obtain ⟨v, f, a, b, c⟩ := RpL.get (i := i) r (by simpa using e)
  exact ⟨v, f, by simpa using a, b, c.trans (List.sublist_append_right _ _)⟩
theorem RpL.append : ∀ {vs ws : List V} {ds es : List D} {f g : List Addr}, RpL K cl H vs ds f → RpL K cl H ws es g → RpL K cl H (vs ++ ws) (ds ++ es) (f ++ g)
 | _, _, _, _, _, _, .nil, s => s
 | _, _, _, _, _, _, .cons h r, s => by
  rw [List.append_assoc]
  exact .cons h (RpL.append r s)
theorem RpL.one {v : V} {d : D} {f : List Addr} (h : Rp K cl H v d f) : RpL K cl H [v] [d] f := by
 have := RpL.cons h .nil
 rwa [List.append_nil] at this
theorem RpL.drop : ∀ {vs : List V} {ds : List D} {f : List Addr} (k : Nat), RpL K cl H vs ds f → ∃ g, RpL K cl H (vs.drop k) (ds.drop k) g ∧ g.Sublist f
 | _, _, _, 0, r => ⟨_, by simpa using r, List.Sublist.refl _⟩
 | _, _, _, k + 1, .nil => ⟨_, by simpa using RpL.nil, List.Sublist.refl _⟩
 | _, _, _, k + 1, .cons h r => by
  obtain ⟨g, a, b⟩ := RpL.drop k r
  exact ⟨g, by simpa using a, b.trans (List.sublist_append_right _ _)⟩
theorem RpL.take : ∀ {vs : List V} {ds : List D} {f : List Addr} (k : Nat), RpL K cl H vs ds f → ∃ g, RpL K cl H (vs.take k) (ds.take k) g ∧ g.Sublist f
 | _, _, _, 0, r => ⟨[], by simpa using RpL.nil, List.nil_sublist _⟩
 | _, _, _, k + 1, .nil => ⟨[], by simpa using RpL.nil, List.Sublist.refl _⟩
 | _, _, _, k + 1, .cons h r => by
  obtain ⟨g, a, b⟩ := RpL.take k r
  exact ⟨_, by simpa using RpL.cons h a, List.Sublist.append (List.Sublist.refl _) b⟩
theorem RpL.set : ∀ {vs : List V} {ds : List D} {f : List Addr} (i : Nat) {v : V} {d : D} {g : List Addr}, RpL K cl H vs ds f → Rp K cl H v d g → f.Nodup → g.Nodup → (∀ a ∈ g, a ∉ f) →
 ∃ f', RpL K cl H (vs.set i v) (ds.set i d) f' ∧ (∀ a ∈ f', a ∈ f ∨ a ∈ g) ∧ f'.Nodup
 | _, _, _, i, _, _, _, .nil, _, nf, _, _ => ⟨[], by simpa using RpL.nil, by simp, nf⟩
 | _, _, _, 0, _, _, g, .cons (f1 := f1) (f2 := f2) h r, s, nf, ng, dj => by
  refine ⟨g ++ f2, by simpa using RpL.cons s r, fun a ha => ?_, ?_⟩
  · rcases List.mem_append.mp ha with q | q
    · exact .inr q
    · exact .inl (List.mem_append_right _ q)
  · rw [List.nodup_append] at nf ⊢
    exact ⟨ng, nf.2.1, fun a ha b hb e => dj a ha (List.mem_append_right _ (e ▸ hb))⟩
 | _, _, _, i + 1, _, _, g, .cons (f1 := f1) (f2 := f2) h r, s, nf, ng, dj => by
  rw [List.nodup_append] at nf
  obtain ⟨f', a, b, c⟩ := RpL.set i r s nf.2.1 ng (fun x hx q => dj x hx (List.mem_append_right _ q))
  refine ⟨f1 ++ f', by simpa using RpL.cons h a, fun x hx => ?_, ?_⟩
  · rcases List.mem_append.mp hx with q | q
    · exact .inl (List.mem_append_left _ q)
    · rcases b x q with q | q
      · exact .inl (List.mem_append_right _ q)
      · exact .inr q
  · rw [List.nodup_append]
    refine ⟨nf.1, c, fun x hx y hy e => ?_⟩
    subst e
    rcases b x hy with q | q
    · exact nf.2.2 x hx x q rfl
    · exact dj x q (List.mem_append_left _ hx)
theorem RpL.erase : ∀ {vs : List V} {ds : List D} {f : List Addr} (i : Nat), RpL K cl H vs ds f → ∃ g, RpL K cl H (vs.eraseIdx i) (ds.eraseIdx i) g ∧ g.Sublist f
 | _, _, _, i, .nil => ⟨[], by simpa using RpL.nil, List.Sublist.refl _⟩
 | _, _, _, 0, .cons h r => ⟨_, by simpa using r, List.sublist_append_right _ _⟩
 | _, _, _, i + 1, .cons h r => by
  obtain ⟨g, a, b⟩ := RpL.erase i r
  exact ⟨_, by simpa using RpL.cons h a, List.Sublist.append (List.Sublist.refl _) b⟩
theorem RpL.nil_inv {vs : List V} {f : List Addr} (h : RpL K cl H vs [] f) : vs = [] ∧ f = [] := by
 cases h; exact ⟨rfl, rfl⟩
theorem RpL.cons_inv {vs : List V} {d : D} {ds : List D} {f : List Addr} (h : RpL K cl H vs (d :: ds) f) : ∃ v ws f1 f2, vs = v :: ws ∧ f = f1 ++ f2 ∧ Rp K cl H v d f1 ∧ RpL K cl H ws ds f2 := by
 cases h with
 | cons a b => exact ⟨_, _, _, _, rfl, rfl, a, b⟩
end
abbrev bw (R : List Lab) (l : Lab) : Prop := l = .fro ∨ l ∈ R
section
variable (K : PySem.W.Frag) (cl : CE)
inductive RpE (H : Hp) : V → D → List Addr → Prop
 | e0 {a : Addr} {c : Str} (h : cl.ex c a none) (hp : pfOf c = none) : RpE H (.ref a) (.exn c .non) []
 | e1 {a dd : Addr} {c f : Str} {v : V} {p : D} {fp : List Addr} (h : cl.ex c a (some dd)) (hp : pfOf c = some f) (hd : H dd = some (.xd [(f, v)])) (r : Rp K cl H v p fp) : RpE H (.ref a) (.exn c p) (dd :: fp)
def VR (H : Hp) (lab : Labs) (k : Kd) (t : Lab) (v : V) (d : D) : Prop :=
 match k with
 | .own => ∃ fp, Rp K cl H v d fp ∧ fp.Nodup ∧ ∀ a ∈ fp, lab a = t
 | .bor R => ∃ fp, Rp K cl H v d fp ∧ ∀ a ∈ fp, bw R (lab a)
 | .spn R => ∃ a vs ds fp, v = .ref a ∧ d = .lst ds ∧ H a = some (.lst vs) ∧ RpL K cl H vs ds fp ∧ lab a = t ∧ ∀ b ∈ fp, b ≠ a ∧ bw R (lab b)
 | .exc R => ∃ fp, RpE K cl H v d fp ∧ (∀ a ∈ fp, bw R (lab a)) ∧ (Lab.out ∈ R → t ∈ R ∧ fp.tail.Nodup ∧ ∀ a ∈ fp, lab a = t)
end
theorem RpE.ext {K : PySem.W.Frag} {cl : CE} {H H' : Hp} (tk : TK H H') {v : V} {d : D} {fp : List Addr} (h : RpE K cl H v d fp) (e : ∀ a ∈ fp, H' a = H a) : RpE K cl H' v d fp := by
 cases h with
 | e0 h hp => exact .e0 h hp
 | e1 h hp hd r => exact .e1 h hp ((e _ List.mem_cons_self).trans hd) (r.ext tk fun a ha => e a (List.mem_cons_of_mem _ ha))
theorem RpE.alloc {K : PySem.W.Frag} {cl : CE} {H : Hp} {v : V} {d : D} {fp : List Addr} (h : RpE K cl H v d fp) : ∀ a ∈ fp, ∃ o, H a = some o ∧ isMut o := by
 cases h with
 | e0 h hp => simp
 | e1 h hp hd r => exact alloc_head hd True.intro r.alloc
theorem RpE.ce {K : PySem.W.Frag} {cl cl' : CE} {H : Hp} {v : V} {d : D} {fp : List Addr} (h : RpE K cl H v d fp) (h1 : ∀ c C, cl.cl c C → cl'.cl c C) (h2 : ∀ c a d, cl.ex c a d → cl'.ex c a d) : RpE K cl' H v d fp := by
 cases h with
 | e0 h hp => exact .e0 (h2 _ _ _ h) hp
 | e1 h hp hd r => exact .e1 (h2 _ _ _ h) hp hd (r.ce h1)
def staysL : Lab → Bool
 | .out => true
 | .prm => true
 | .fro => true
 | _ => false
def nTb (x : Option HO) : Prop := ∀ ps, x ≠ some (.tbl ps)
theorem nTb.mut {x : Option HO} (h : ∃ o, x = some o ∧ isMut o) : nTb x := fun ps e => by
 obtain ⟨o, e2, m⟩ := h
 rw [e] at e2
 cases e2
 exact m.elim
theorem nTb.lst {x : Option HO} {vs : List V} (h : x = some (.lst vs)) : nTb x := .mut ⟨_, h, True.intro⟩
theorem nTb.eq {x y : Option HO} (h : nTb x) (e : y = x) : nTb y := e ▸ h
def lamD : Str := "_law_products"
def lamQ : Str := "_law_products.<locals>.<lambda>"
def TabP (H : Hp) (lab : Labs) (P : Addr) (_q : Str) (ps : Array Value) : Prop := H P = some (.tbl ps) ∧ TriplesOk ps.toList ∧ ∀ (pos : Pos) (cv : Value), codeAmong pos ps.toList = some cv → ∃ c, cv = .ref c ∧ H c = some (LamX.CodeO c lamQ) ∧ staysL (lab c) = true
def TabL (H : Hp) (lab : Labs) (P : Addr) (q : Str) : Prop := ∃ ps : Array Value, TabP H lab P q ps
def NewC (H : Hp) (ps ps' : Array Value) : Prop := ∀ (pos : Pos) (c : Addr), codeAmong pos ps'.toList = some (.ref c) → codeAmong pos ps.toList = some (.ref c) ∨ H c = none
def IsTab (K : PySem.W.Frag) (ce : CE) (P : Addr) : Prop := ∃ (f : Addr) (o : Obj) (fd : FuncData) (c : Addr) (oc : Obj) (vs : Array Value), ce.cl lamD f ∧ K.lookup f = some o ∧ o.data = .func fd ∧ fd.code = .ref c ∧ K.lookup c = some oc ∧ oc.data = .fields vs ∧ vs[11]? = some (.ref P)
theorem IsTab.inj {K : PySem.W.Frag} {ce : CE} (h1 : ∀ f f', ce.cl lamD f → ce.cl lamD f' → f = f') {P P' : Addr} (a : IsTab K ce P) (b : IsTab K ce P') : P = P' := by
 obtain ⟨f, o, fd, c, oc, vs, a1, a2, a3, a4, a5, a6, a7⟩ := a
 obtain ⟨f', o', fd', c', oc', vs', b1, b2, b3, b4, b5, b6, b7⟩ := b
 have e := h1 _ _ a1 b1
 subst e
 rw [a2] at b2
 cases b2
 rw [a3] at b3
 cases b3
 rw [a4] at b4
 cases b4
 rw [a5] at b5
 cases b5
 rw [a6] at b6
 cases b6
 rw [a7] at b7
 cases b7
 rfl
def TbOk (K : PySem.W.Frag) (ce : CE) (H : Hp) (lab : Labs) : Prop := ∀ P, IsTab K ce P → TabL H lab P lamQ
theorem TbOk.ce {K : PySem.W.Frag} {c1 c2 : CE} {H : Hp} {lab : Labs} (h : TbOk K c1 H lab) (e : ∀ f, c2.cl lamD f → c1.cl lamD f) : TbOk K c2 H lab := fun P ⟨f, o, fd, c, oc, vs, a, r⟩ => h P ⟨f, o, fd, c, oc, vs, e f a, r⟩
theorem nTb.code {x : Option HO} {c : Addr} {q : Str} (h : x = some (LamX.CodeO c q)) : nTb x := fun ps e => by
 rw [h] at e
 unfold LamX.CodeO at e
 cases e
theorem TabP.of {H H' : Hp} {lab lab' : Labs} (ht : ∀ P ps, H P = some (.tbl ps) → H' P = some (.tbl ps)) (hc : ∀ c, H c ≠ none → nTb (H c) → staysL (lab c) = true → H' c = H c ∧ staysL (lab' c) = true) : ∀ P q ps, TabP H lab P q ps → ∃ ps', TabP H' lab' P q ps' ∧ NewC H ps ps' := fun P q ps ⟨h1, h2, h3⟩ => ⟨ps, ⟨ht _ _ h1, h2, fun pos cv h => by
 obtain ⟨c, e1, e2, e3⟩ := h3 pos cv h
 obtain ⟨a1, a2⟩ := hc c (by rw [e2]; simp) (nTb.code e2) e3
 exact ⟨c, e1, a1.trans e2, a2⟩⟩, fun _ _ h => .inl h⟩
theorem TabP.relab {H : Hp} {lab lab' : Labs} (h : ∀ c, staysL (lab c) = true → staysL (lab' c) = true) : ∀ P q ps, TabP H lab P q ps → ∃ ps', TabP H lab' P q ps' ∧ NewC H ps ps' := TabP.of (fun _ _ e => e) fun c _ _ l => ⟨rfl, h c l⟩
theorem TbOk.relab {K : PySem.W.Frag} {ce : CE} {H : Hp} {lab lab' : Labs} (t : TbOk K ce H lab) (h : ∀ c, staysL (lab c) = true → staysL (lab' c) = true) : TbOk K ce H lab' := fun P hP => let ⟨ps, e⟩ := t P hP; let ⟨ps', e', _⟩ := TabP.relab h P _ ps e; ⟨ps', e'⟩
def keepL (m : List Nat) (n : Nat) : Lab → Bool
 | .out => true
 | .prm => true
 | .fro => true
 | .slt i => !m.contains i
 | .tmp j => decide (j < n)
theorem keep_stays {m : List Nat} {n : Nat} {l : Lab} (h : staysL l = true) : keepL m n l = true := by cases l <;> first | rfl | cases h
def oldL : Lab → Bool
 | .out => true
 | .prm => true
 | _ => false
structure Pres (m : List Nat) (n : Nat) (H : Hp) (lab : Labs) (H' : Hp) (lab' : Labs) : Prop where
 keep : ∀ a, H a ≠ none → keepL m n (lab a) = true → (nTb (H a) → H' a = H a) ∧ lab' a = lab a
 tk : TK H H'
 there : ∀ a, H a ≠ none → H' a ≠ none
 old : ∀ a, H' a ≠ none → oldL (lab' a) = true → H a ≠ none ∧ lab a = lab' a
 tab : ∀ P q ps, TabP H lab P q ps → ∃ ps', TabP H' lab' P q ps' ∧ NewC H ps ps'
theorem TbOk.pres {K : PySem.W.Frag} {ce : CE} {m : List Nat} {n : Nat} {H : Hp} {lab : Labs} {H' : Hp} {lab' : Labs} (h : TbOk K ce H lab) (p : Pres m n H lab H' lab') : TbOk K ce H' lab' := fun P hP => let ⟨_, e⟩ := h P hP; let ⟨ps', e', _⟩ := p.tab P _ _ e; ⟨ps', e'⟩
theorem Pres.refl (m : List Nat) (n : Nat) (H : Hp) (lab : Labs) : Pres m n H lab H lab := ⟨fun _ _ _ => ⟨fun _ => rfl, rfl⟩, TK.refl H, fun _ h => h, fun _ h _ => ⟨h, rfl⟩, fun _ _ ps h => ⟨ps, h, fun _ _ h => .inl h⟩⟩
def SubK (m : List Nat) (n : Nat) (m' : List Nat) (n' : Nat) : Prop := ∀ l, keepL m n l = true → keepL m' n' l = true
theorem SubK.refl (m : List Nat) (n : Nat) : SubK m n m n := fun _ h => h
theorem SubK.trans {m m1 m2 : List Nat} {n n1 n2 : Nat} (a : SubK m n m1 n1) (b : SubK m1 n1 m2 n2) : SubK m n m2 n2 := fun l h => b l (a l h)
theorem SubK.of {m m' : List Nat} {n n' : Nat} (h : ∀ i ∈ m', i ∈ m) (hn : n ≤ n') : SubK m n m' n' := fun l => by
 cases l with
 | slt i =>
  simp only [keepL, Bool.not_eq_true', List.contains_eq_mem, decide_eq_false_iff_not]
  exact fun q z => q (h i z)
 | tmp j =>
  simp only [keepL, decide_eq_true_eq]
  omega
 | _ => exact fun q => q
theorem SubK.left (m m' : List Nat) (n : Nat) : SubK (m ++ m') n m n := .of (fun _ h => List.mem_append_left _ h) (Nat.le_refl _)
theorem SubK.right (m m' : List Nat) (n : Nat) : SubK (m ++ m') n m' n := .of (fun _ h => List.mem_append_right _ h) (Nat.le_refl _)
theorem SubK.up (m : List Nat) (n : Nat) : SubK m n m (n + 1) := .of (fun _ h => h) (Nat.le_succ _)
theorem SubK.nil (m : List Nat) (n : Nat) : SubK m n [] n := .of (fun _ h => by simp at h) (Nat.le_refl _)
theorem Pres.trans {m m1 m2 : List Nat} {n n1 n2 : Nat} {H H1 H2 : Hp} {lab lab1 lab2 : Labs} (a : Pres m1 n1 H lab H1 lab1) (b : Pres m2 n2 H1 lab1 H2 lab2) (s1 : SubK m n m1 n1) (s2 : SubK m n m2 n2) : Pres m n H lab H2 lab2 where
 keep := fun x hx hk => by
  obtain ⟨e1, e2⟩ := a.keep x hx (s1 _ hk)
  obtain ⟨e3, e4⟩ := b.keep x (a.there x hx) (by rw [e2]; exact s2 _ hk)
  exact ⟨fun z => (e3 (z.eq (e1 z))).trans (e1 z), e4.trans e2⟩
 tab := fun P q ps h => by
  obtain ⟨p1, t1, c1⟩ := a.tab P q ps h
  obtain ⟨p2, t2, c2⟩ := b.tab P q p1 t1
  exact ⟨p2, t2, fun pos c e => (c2 pos c e).elim (c1 pos c) fun e => .inr (Classical.byContradiction fun z => a.there c z e)⟩
 tk := a.tk.trans b.tk
 there := fun x hx => b.there x (a.there x hx)
 old := fun x hx ho => by
  obtain ⟨e1, e2⟩ := b.old x hx ho
  obtain ⟨e3, e4⟩ := a.old x e1 (by rw [e2]; exact ho)
  exact ⟨e3, e4.trans e2⟩
theorem Pres.mono {m m1 : List Nat} {n n1 : Nat} {H H1 : Hp} {lab lab1 : Labs} (a : Pres m1 n1 H lab H1 lab1) (s : SubK m n m1 n1) : Pres m n H lab H1 lab1 := ⟨fun x hx hk => a.keep x hx (s _ hk), a.tk, a.there, a.old, a.tab⟩
theorem Pres.keepM {m : List Nat} {n : Nat} {H : Hp} {lab : Labs} {H' : Hp} {lab' : Labs} (p : Pres m n H lab H' lab') {a : Addr} (h : ∃ o, H a = some o ∧ isMut o) (hk : keepL m n (lab a) = true) : H' a = H a ∧ lab' a = lab a := (p.keep a (by obtain ⟨o, e, _⟩ := h; rw [e]; simp) hk).imp (fun z => z (.mut h)) id
abbrev setL (lab : Labs) (p : Addr) (t : Lab) : Labs := fun b => if b = p then t else lab b
theorem Pres.alloc {m : List Nat} {n : Nat} {H : Hp} {lab : Labs} {p : Addr} {o : HO} {t : Lab} (hp : H p = none) (ht : oldL t = false) : Pres m n H lab (upd H p o) (setL lab p t) where
 keep := fun x hx _ => by
  have : x ≠ p := fun e => hx (by rw [e]; exact hp)
  exact ⟨fun _ => upd_ne this, if_neg this⟩
 tab := TabP.of (fun P ps e => by rw [upd_ne (ne_of_none e hp)]; exact e) fun c hc _ l => by
  have : c ≠ p := fun e => hc (by rw [e]; exact hp)
  exact ⟨upd_ne this, by rw [show setL lab p t c = lab c from if_neg this]; exact l⟩
 tk := TK.new hp
 there := fun x hx => by rw [upd_ne (fun e => hx (by rw [e]; exact hp))]; exact hx
 old := fun x hx ho => by
  by_cases e : x = p
  · subst e
    simp only [setL, if_true] at ho
    rw [ht] at ho; cases ho
  · simp only [setL, if_neg e] at ho ⊢
    rw [upd_ne e] at hx
    exact ⟨hx, trivial⟩
theorem Pres.relab {m : List Nat} {n : Nat} {H : Hp} {lab lab' : Labs} (h : ∀ a, keepL m n (lab a) = true → lab' a = lab a) (h2 : ∀ a, oldL (lab' a) = true → lab a = lab' a) : Pres m n H lab H lab' :=
 ⟨fun a _ k => ⟨fun _ => rfl, h a k⟩, TK.refl H, fun _ q => q, fun a q o => ⟨q, h2 a o⟩, TabP.of (fun _ _ e => e) fun c _ _ l => ⟨rfl, by rw [h c (keep_stays l)]; exact l⟩⟩
theorem Pres.mut {m : List Nat} {n : Nat} {H : Hp} {lab : Labs} {p : Addr} {u o : HO} (hp : H p = some u) (mu : isMut u) (hk : keepL m n (lab p) = false) : Pres m n H lab (upd H p o) lab where
 keep := fun x hx k => by
  have : x ≠ p := fun e => by subst e; rw [hk] at k; cases k
  exact ⟨fun _ => upd_ne this, rfl⟩
 tab := TabP.of (fun P ps e => by
  have : P ≠ p := fun z => by
   rw [z, hp] at e
   cases e
   exact mu.elim
  rw [upd_ne this]
  exact e) fun c _ _ l => by
  have : c ≠ p := fun e => by rw [← e, keep_stays l] at hk; cases hk
  exact ⟨upd_ne this, l⟩
 tk := TK.mut hp mu
 there := fun x hx => by
  by_cases e : x = p
  · subst e; rw [upd_same]; simp
  · rw [upd_ne e]; exact hx
 old := fun x hx ho => by
  by_cases e : x = p
  · subst e; exact ⟨by rw [hp]; simp, rfl⟩
  · rw [upd_ne e] at hx; exact ⟨hx, rfl⟩
def okK (m : List Nat) (n : Nat) : Kd → Bool
 | .own => true
 | .bor R => R.all (keepL m n)
 | .spn R => R.all (keepL m n)
 | .exc R => R.all (keepL m n)
section
variable {K : PySem.W.Frag} {cl : CE} {H H' : Hp} {lab lab' : Labs} {m : List Nat} {n : Nat} {k : Kd} {t : Lab} {v : V} {d : D}
theorem bw_keep {R : List Lab} (h : R.all (keepL m n) = true) {l : Lab} (b : bw R l) : keepL m n l = true := by
 rcases b with rfl | b
 · rfl
 · exact List.all_eq_true.mp h _ b
theorem VR.pres (p : Pres m n H lab H' lab') (h : VR K cl H lab k t v d) (ok : okK m n k = true) (ht : keepL m n t = true) : VR K cl H' lab' k t v d := by
 cases k with
 | own =>
  obtain ⟨fp, r, nd, l⟩ := h
  have e : ∀ a ∈ fp, H' a = H a ∧ lab' a = lab a := fun a ha => (p.keep a (by obtain ⟨o, e, _⟩ := r.alloc a ha; rw [e]; simp) (by rw [l a ha]; exact ht)).imp (fun z => z (.mut (r.alloc a ha))) id
  exact ⟨fp, r.ext p.tk fun a ha => (e a ha).1, nd, fun a ha => (e a ha).2.trans (l a ha)⟩
 | bor R =>
  obtain ⟨fp, r, l⟩ := h
  have e : ∀ a ∈ fp, H' a = H a ∧ lab' a = lab a := fun a ha => (p.keep a (by obtain ⟨o, e, _⟩ := r.alloc a ha; rw [e]; simp) (bw_keep ok (l a ha))).imp (fun z => z (.mut (r.alloc a ha))) id
  exact ⟨fp, r.ext p.tk fun a ha => (e a ha).1, fun a ha => by rw [(e a ha).2]; exact l a ha⟩
 | spn R =>
  obtain ⟨a, vs, ds, fp, rfl, rfl, ha, r, la, l⟩ := h
  have e0 := (p.keep a (by rw [ha]; simp) (by rw [la]; exact ht)).imp (fun z => z (.lst ha)) id
  have e : ∀ b ∈ fp, H' b = H b ∧ lab' b = lab b := fun b hb => (p.keep b (by obtain ⟨o, e, _⟩ := r.alloc b hb; rw [e]; simp) (bw_keep ok (l b hb).2)).imp (fun z => z (.mut (r.alloc b hb))) id
  exact ⟨a, vs, ds, fp, rfl, rfl, e0.1.trans ha, r.ext p.tk fun b hb => (e b hb).1, e0.2.trans la, fun b hb => ⟨(l b hb).1, by rw [(e b hb).2]; exact (l b hb).2⟩⟩
 | exc R =>
  obtain ⟨fp, r, l, u⟩ := h
  have e : ∀ a ∈ fp, H' a = H a ∧ lab' a = lab a := fun a ha => (p.keep a (by obtain ⟨o, e, _⟩ := r.alloc a ha; rw [e]; simp) (bw_keep ok (l a ha))).imp (fun z => z (.mut (r.alloc a ha))) id
  exact ⟨fp, r.ext p.tk fun a ha => (e a ha).1, fun a ha => by rw [(e a ha).2]; exact l a ha, fun z => ⟨(u z).1, (u z).2.1, fun a ha => by rw [(e a ha).2]; exact (u z).2.2 a ha⟩⟩
def D.noE : D → Bool
 | .exn _ _ => false
 | _ => true
theorem VR.rp (h : VR K cl H lab k t v d) (hn : d.noE = true := by rfl) : ∃ fp, Rp K cl H v d fp := by
 cases k with
 | own => obtain ⟨fp, r, _⟩ := h; exact ⟨fp, r⟩
 | bor R => obtain ⟨fp, r, _⟩ := h; exact ⟨fp, r⟩
 | spn R => obtain ⟨a, vs, ds, fp, rfl, rfl, ha, r, _⟩ := h; exact ⟨_, .lst ha r⟩
 | exc R => obtain ⟨fp, r, _⟩ := h; cases r <;> cases hn
theorem VR.int {i : Int} (h : VR K cl H lab k t v (.int i)) : v = .int i := by
 obtain ⟨fp, r⟩ := h.rp
 cases r; rfl
theorem VR.bl {b : Bool} (h : VR K cl H lab k t v (.bl b)) : v = .bl b := by
 obtain ⟨fp, r⟩ := h.rp
 cases r; rfl
theorem VR.str {x : Str} (h : VR K cl H lab k t v (.str x)) : v = .str x := by
 obtain ⟨fp, r⟩ := h.rp
 cases r; rfl
theorem VR.non (h : VR K cl H lab k t v .non) : v = .non := by
 obtain ⟨fp, r⟩ := h.rp
 cases r; rfl
theorem VR.of_nil (r : Rp K cl H v d []) : VR K cl H lab .own t v d := ⟨[], r, List.nodup_nil, fun a ha => by simp at ha⟩
theorem VR.ce {cl' : CE} (h : VR K cl H lab k t v d) (h1 : ∀ c C, cl.cl c C → cl'.cl c C) (h2 : ∀ c a d, cl.ex c a d → cl'.ex c a d) : VR K cl' H lab k t v d := by
 cases k with
 | own => obtain ⟨fp, r, q⟩ := h; exact ⟨fp, r.ce h1, q⟩
 | bor R => obtain ⟨fp, r, q⟩ := h; exact ⟨fp, r.ce h1, q⟩
 | spn R => obtain ⟨a, vs, ds, fp, e1, e2, ha, r, q⟩ := h; exact ⟨a, vs, ds, fp, e1, e2, ha, r.ce h1, q⟩
 | exc R => obtain ⟨fp, r, q⟩ := h; exact ⟨fp, r.ce h1 h2, q⟩
theorem VR.flat (h : VR K cl H lab k t v d) (f : d.flat = true) {t' : Lab} : VR K cl H' lab' .own t' v d ∨ True := .inr True.intro
theorem VR.flat_own (h : VR K cl H lab k t v d) (f : d.flat = true) {t' : Lab} : VR K cl H lab .own t' v d := by
 obtain ⟨fp, r⟩ := h.rp (by cases d <;> first | rfl | cases f)
 have e := r.flat f
 subst e
 exact .of_nil r
end
end Ow
namespace Ow
open PySem PySem.Spec PyProof.Rows L2
abbrev St := L2.St
abbrev clM (mg : Str → Option Value) : CE := ⟨fun c C => mg c = some (.ref C), fun _ _ _ => False⟩
abbrev clX (X : Cx) : CE := ⟨fun c C => X.mg c = some (.ref C), fun c a dd => X.calm = false ∧ ∃ oe vs C, X.pn.head? = some (a, oe) ∧ oe.data = .fields vs ∧ X.mg c = some (.ref C) ∧ Zc (.ref C) dd oe⟩
structure SR (X : Cx) (Γ : Ctx) (σ : St) (H : Hp) (lab : Labs) (σD : List D) : Prop where
 l1 : σ.length = X.N.length
 l2 : σD.length = X.N.length
 at_ : ∀ (i : Nat) k, Γ[i]? = some (some k) → ∃ v d, σ[i]? = some (some v) ∧ σD[i]? = some d ∧ VR X.K (clX X) H lab k (.slt i) v d
 tb : TbOk X.K (clX X) H lab
def gok (Γ : Ctx) (n : Nat) : Bool := Γ.all fun k => match k with
 | none => true
 | some k => okK [] n k
theorem gok.at_ {Γ : Ctx} {n : Nat} (h : gok Γ n = true) {i : Nat} {k : Kd} (e : Γ[i]? = some (some k)) : okK [] n k = true :=
 List.all_eq_true.mp h _ (List.mem_of_getElem? e)
theorem keepL.up {m : List Nat} {n : Nat} {l : Lab} (h : keepL m n l = true) : keepL m (n + 1) l = true := by
 cases l with
 | tmp j => simp only [keepL, decide_eq_true_eq] at h ⊢; omega
 | _ => exact h
theorem okK.up {m : List Nat} {n : Nat} {k : Kd} (h : okK m n k = true) : okK m (n + 1) k = true := by
 cases k with
 | own => rfl
 | bor R => exact List.all_eq_true.mpr fun x hx => keepL.up (List.all_eq_true.mp h x hx)
 | spn R => exact List.all_eq_true.mpr fun x hx => keepL.up (List.all_eq_true.mp h x hx)
 | exc R => exact List.all_eq_true.mpr fun x hx => keepL.up (List.all_eq_true.mp h x hx)
theorem gok.up {Γ : Ctx} {n : Nat} (h : gok Γ n = true) : gok Γ (n + 1) = true := List.all_eq_true.mpr fun k hk => by
 have := List.all_eq_true.mp h k hk
 cases k with
 | none => rfl
 | some k => exact okK.up this
def gokm (Γ : Ctx) (m : List Nat) (n : Nat) : Bool := (List.range Γ.length).all fun i => match Γ[i]? with
 | some (some k) => okK m n k && !m.contains i
 | _ => true
theorem gokm.at_ {Γ : Ctx} {m : List Nat} {n : Nat} (h : gokm Γ m n = true) {i : Nat} {k : Kd} (e : Γ[i]? = some (some k)) : okK m n k = true ∧ keepL m n (.slt i) = true := by
 have := List.all_eq_true.mp h i (List.mem_range.mpr (List.getElem?_eq_some_iff.mp e).1)
 rw [e] at this
 rw [Bool.and_eq_true] at this
 exact this
section
variable {X : Cx} {Γ : Ctx} {σ : St} {H H' : Hp} {lab lab' : Labs} {σD : List D} {m : List Nat} {n : Nat}
theorem SR.pres (s : SR X Γ σ H lab σD) (g : gok Γ n = true) (p : Pres [] n H lab H' lab') : SR X Γ σ H' lab' σD :=
 ⟨s.l1, s.l2, fun i k e => by
  obtain ⟨v, d, a, b, c⟩ := s.at_ i k e
  exact ⟨v, d, a, b, c.pres p (gok.at_ g e) rfl⟩, s.tb.pres p⟩
theorem SR.get (s : SR X Γ σ H lab σD) {i : Nat} {k : Kd} (e : Γ[i]? = some (some k)) : ∃ v, σ[i]? = some (some v) ∧ VR X.K (clX X) H lab k (.slt i) v (σD.getD i .non) := by
 obtain ⟨v, d, a, b, c⟩ := s.at_ i k e
 refine ⟨v, a, ?_⟩
 rw [List.getD_eq_getElem?_getD, b]
 exact c
end
inductive ER (α : Type) where
 | stuck | ok (a : α) (σ : List D) | exc (c : Str) (p : D) (σ : List D)
def ER.bind {α β : Type} (r : ER α) (f : α → List D → ER β) : ER β := match r with
 | .stuck => .stuck
 | .ok a σ => f a σ
 | .exc c p σ => .exc c p σ
def ofO {α : Type} (o : Option α) (σ : List D) : ER α := match o with
 | some a => .ok a σ
 | none => .stuck
@[simp] theorem ER.bind_ok {α β : Type} (a : α) (σ : List D) (f : α → List D → ER β) : (ER.ok a σ).bind f = f a σ := rfl
@[simp] theorem ER.bind_stuck {α β : Type} (f : α → List D → ER β) : (ER.stuck : ER α).bind f = .stuck := rfl
@[simp] theorem ER.bind_exc {α β : Type} (c : Str) (p : D) (σ : List D) (f : α → List D → ER β) : (ER.exc c p σ : ER α).bind f = .exc c p σ := rfl
@[simp] theorem ofO_some {α : Type} (a : α) (σ : List D) : ofO (some a) σ = .ok a σ := rfl
@[simp] theorem ofO_none {α : Type} (σ : List D) : ofO (none : Option α) σ = .stuck := rfl
def PayOk (X : Cx) (H : Hp) (lab : Labs) (n : Nat) (c : Str) (p : D) (dd : Option Addr) : Prop := match pfOf c with
 | none => p = .non ∧ dd = none
 | some f => ∃ (d : Addr) (v : V) (j : Nat), dd = some d ∧ H d = some (.xd [(f, v)]) ∧ lab d = .tmp j ∧ n ≤ j ∧ VR X.K (clX X) H lab .own (.tmp j) v p
abbrev Rel (β α : Type) := List D → Hp → Labs → β → α → Prop
section
variable {α β γ δ : Type}
def Post (X : Cx) (W : WX) (Γx Γ : Ctx) (σ : St) (m : List Nat) (n : Nat) (rel : Rel β α) (H : Hp) (lab : Labs) (Q : β → Hp → Prop) : ER α → Prop
 | .stuck => False
 | .ok a σD' => ∀ b H' lab', SR X Γ σ H' lab' σD' → Pres m n H lab H' lab' → rel σD' H' lab' b a → Q b H'
 | .exc c p σD' => ∀ H' lab' C dd, X.mg c = some (.ref C) → SR X Γx σ H' lab' σD' → Pres m n H lab H' lab' → PayOk X H' lab' n c p dd → W (.ref C) dd σ H'
variable {X : Cx} {W : WX} {Γx Γ : Ctx} {σ : St} {m m1 m2 : List Nat} {n n1 n2 : Nat} {H H1 : Hp} {lab lab1 : Labs}
theorem PayOk.mono {H : Hp} {lab : Labs} {c : Str} {p : D} {dd : Option Addr} (h : PayOk X H lab n1 c p dd) (hn : n ≤ n1) : PayOk X H lab n c p dd := by
 unfold PayOk at h ⊢
 split at h
 · exact h
 · obtain ⟨d, v, j, a, b, l, c, e⟩ := h
   exact ⟨d, v, j, a, b, l, Nat.le_trans hn c, e⟩
theorem Post.seq {rel : Rel β α} {rel1 : Rel δ γ} {Q : β → Hp → Prop} {Q1 : δ → Hp → Prop} {r : ER γ} {f : γ → List D → ER α} (h : Post X W Γx Γ σ m n rel H lab Q (r.bind f)) (s1 : SubK m n m1 n1) (h1 : n ≤ n1) (s2 : SubK m n m2 n2) (h2 : n ≤ n2)
 (k : ∀ a σD1 b H1 lab1, SR X Γ σ H1 lab1 σD1 → Pres m1 n1 H lab H1 lab1 → rel1 σD1 H1 lab1 b a → Post X W Γx Γ σ m2 n2 rel H1 lab1 Q (f a σD1) → Q1 b H1) : Post X W Γx Γ σ m1 n1 rel1 H lab Q1 r := by
 cases r with
 | stuck => exact h.elim
 | ok a σD1 =>
  intro b H1 lab1 sr pr rl
  refine k a σD1 b H1 lab1 sr pr rl ?_
  have h : Post X W Γx Γ σ m n rel H lab Q (f a σD1) := h
  cases e : f a σD1 with
  | stuck => rw [e] at h; exact h.elim
  | ok a2 σD2 =>
   rw [e] at h
   intro b2 H2 lab2 sr2 pr2 rl2
   exact h b2 H2 lab2 sr2 (pr.trans pr2 s1 s2) rl2
  | exc c p σD2 =>
   rw [e] at h
   intro H2 lab2 C dd hc sr2 pr2 py
   exact h H2 lab2 C dd hc sr2 (pr.trans pr2 s1 s2) (py.mono h2)
 | exc c p σD1 =>
  intro H1 lab1 C dd hc sr pr py
  have h : Post X W Γx Γ σ m n rel H lab Q (.exc c p σD1) := h
  exact h H1 lab1 C dd hc sr (pr.mono s1) (py.mono h1)
theorem Post.seq' {rel : Rel β α} {rel1 : Rel δ γ} {Q : β → Hp → Prop} {Q1 : δ → Hp → Prop} {r : ER γ} {f : γ → List D → ER α} (h : Post X W Γx Γ σ (m1 ++ m2) n rel H lab Q (r.bind f))
 (k : ∀ a σD1 b H1 lab1, SR X Γ σ H1 lab1 σD1 → Pres m1 n H lab H1 lab1 → rel1 σD1 H1 lab1 b a → Post X W Γx Γ σ m2 n rel H1 lab1 Q (f a σD1) → Q1 b H1) : Post X W Γx Γ σ m1 n rel1 H lab Q1 r :=
 h.seq (SubK.left _ _ _) (Nat.le_refl _) (SubK.right _ _ _) (Nat.le_refl _) k
theorem Post.last {rel : Rel β α} {rel1 : Rel δ γ} {Q : β → Hp → Prop} {Q1 : δ → Hp → Prop} {r : ER γ} {f : γ → List D → ER α} (h : Post X W Γx Γ σ m n rel H lab Q (r.bind f))
 (k : ∀ a σD1 b H1 lab1, SR X Γ σ H1 lab1 σD1 → Pres m n H lab H1 lab1 → rel1 σD1 H1 lab1 b a → Post X W Γx Γ σ [] n rel H1 lab1 Q (f a σD1) → Q1 b H1) : Post X W Γx Γ σ m n rel1 H lab Q1 r :=
 h.seq (SubK.refl _ _) (Nat.le_refl _) (SubK.nil _ _) (Nat.le_refl _) k
theorem Post.imp {rel rel' : Rel β α} {Q Q' : β → Hp → Prop} {r : ER α} (h : Post X W Γx Γ σ m n rel H lab Q r) (hr : ∀ a σD' H' b lab', SR X Γ σ H' lab' σD' → Pres m1 n1 H lab H' lab' → rel' σD' H' lab' b a → (∀ b H' lab', SR X Γ σ H' lab' σD' → Pres m n H lab H' lab' → rel σD' H' lab' b a → Q b H') → Q' b H') (s : SubK m n m1 n1) (hn : n ≤ n1) : Post X W Γx Γ σ m1 n1 rel' H lab Q' r := by
 cases r with
 | stuck => exact h.elim
 | ok a σD' => exact fun b H' lab' sr pr rl => hr a σD' H' b lab' sr pr rl h
 | exc c p σD' => exact fun H' lab' C dd hc sr pr py => h H' lab' C dd hc sr (pr.mono s) (py.mono hn)
theorem Post.done {rel : Rel β α} {Q : β → Hp → Prop} {σD : List D} {o : Option α} (h : Post X W Γx Γ σ m n rel H lab Q (ofO o σD)) : ∃ z, o = some z ∧ ∀ b H' lab', SR X Γ σ H' lab' σD → Pres m n H lab H' lab' → rel σD H' lab' b z → Q b H' := by
 cases o with
 | none => exact h.elim
 | some z => exact ⟨z, rfl, h⟩
end
section
variable (X : Cx) (W : WX) (Γx Γ : Ctx) (n : Nat) (m : List Nat)
abbrev relE (X : Cx) (n : Nat) (k : Kd) : Rel V D := fun _ H lab v d => VR X.K (clX X) H lab k (.tmp n) v d
abbrev relT : Rel Bool Bool := fun _ _ _ b a => b = a
def rdE (k : Kd) (g : List D → ER D) : TE := fun σ H Q => ∃ σD lab, gok Γ n = true ∧ SR X Γ σ H lab σD ∧ Post X W Γx Γ σ m n (relE X n k) H lab Q (g σD)
def rdT (g : List D → ER Bool) : TT := fun σ H Q => ∃ σD lab, gok Γ n = true ∧ SR X Γ σ H lab σD ∧ Post X W Γx Γ σ m n relT H lab Q (g σD)
abbrev EJ (e : Expr) (g : List D → ER D) (k : Kd) : Prop := PE X e (rdE X W Γx Γ n m k g)
abbrev TJ (e : Expr) (g : List D → ER Bool) : Prop := PT X e (rdT X W Γx Γ n m g)
end
theorem pe_imp {X : Cx} {e : Expr} {t u : TE} (h : PE X e t) (i : ∀ σ H Q, u σ H Q → t σ H Q) : PE X e u := ⟨fun pins s σ H Q I q => h.run pins s σ H Q I (i σ H Q q)⟩
theorem pt_imp {X : Cx} {e : Expr} {t u : TT} (h : PT X e t) (i : ∀ σ H Q, u σ H Q → t σ H Q) : PT X e u := ⟨fun pins s σ H Q I q => h.run pins s σ H Q I (i σ H Q q)⟩
theorem pa_imp {X : Cx} {e : List Expr} {t u : TA} (h : PA X e t) (i : ∀ σ H Q, u σ H Q → t σ H Q) : PA X e u := ⟨fun pos pins s σ H Q I q => h.run pos pins s σ H Q I (i σ H Q q)⟩
theorem ps_imp {X : Cx} {e : Stmt} {t u : TS} (h : PS X e t) (i : ∀ D σ H, u D σ H → t D σ H) : PS X e u := ⟨fun pins s σ H D I q => h.run pins s σ H D I (i D σ H q)⟩
theorem pss_imp {X : Cx} {e : List Stmt} {t u : TS} (h : PSs X e t) (i : ∀ D σ H, u D σ H → t D σ H) : PSs X e u := ⟨fun pins s σ H D I q => h.run pins s σ H D I (i D σ H q)⟩
def borK (i : Nat) : Kd → Kd
 | .own => .bor [.slt i]
 | .bor R => .bor R
 | .spn R => .bor (.slt i :: R)
 | .exc R => .exc (R.filter fun l => decide (l ≠ .out))
section
variable {X : Cx} {W : WX} {Γx Γ : Ctx} {n : Nat} {m m1 m2 : List Nat} {pos : Pos}
theorem VR.borrow {K : PySem.W.Frag} {cl : CE} {H : Hp} {lab : Labs} {k : Kd} {i : Nat} {v : V} {d : D} {t : Lab} (h : VR K cl H lab k (.slt i) v d) : VR K cl H lab (borK i k) t v d := by
 cases k with
 | own =>
  obtain ⟨fp, r, _, l⟩ := h
  exact ⟨fp, r, fun a ha => .inr (by rw [l a ha]; exact List.mem_cons_self)⟩
 | bor R => exact h
 | spn R =>
  obtain ⟨a, vs, ds, fp, rfl, rfl, ha, r, la, l⟩ := h
  refine ⟨_, .lst ha r, fun b hb => ?_⟩
  rcases List.mem_cons.mp hb with q | q
  · exact .inr (by rw [q, la]; exact List.mem_cons_self)
  · exact (l b q).2.elim .inl fun z => .inr (List.mem_cons_of_mem _ z)
 | exc R =>
  obtain ⟨fp, r, l, u⟩ := h
  refine ⟨fp, r, fun a ha => ?_, fun z => by simp at z⟩
  by_cases z : Lab.out ∈ R
  · obtain ⟨u1, _, u3⟩ := u z
    exact .inr (List.mem_filter.mpr ⟨by rw [u3 a ha]; exact u1, by rw [u3 a ha]; rfl⟩)
  · rcases l a ha with e | e
    · exact .inl e
    · exact .inr (List.mem_filter.mpr ⟨e, decide_eq_true fun q => z (q ▸ e)⟩)
def eVar (i : Nat) : List D → ER D := fun σ => .ok (σ.getD i .non) σ
theorem ej_var {i : Nat} {x : Str} {k : Kd} (hΓ : Γ[i]? = some (some k)) (h : PE X (.Name x pos) (tVar i)) : EJ X W Γx Γ n [] (.Name x pos) (eVar i) (borK i k) := by
 refine pe_imp h fun σ H Q hq => ?_
 obtain ⟨σD, lab, g, sr, po⟩ := hq
 obtain ⟨v, hv, hr⟩ := sr.get hΓ
 exact ⟨v, hv, po v H lab sr (.refl _ _ _ _) hr.borrow⟩
def eC (d : D) : List D → ER D := fun σ => .ok d σ
theorem ej_c {e : Expr} {v : V} {d : D} (h : PE X e (tC v)) (r : ∀ H, Rp X.K (clX X) H v d []) : EJ X W Γx Γ n [] e (eC d) .own := by
 refine pe_imp h fun σ H Q hq => ?_
 obtain ⟨σD, lab, g, sr, po⟩ := hq
 exact po v H lab sr (.refl _ _ _ _) (.of_nil (r H))
theorem ej_int {i : Int} {j} : EJ X W Γx Γ n [] (.Constant (.int i) j pos) (eC (.int i)) .own := ej_c pe_int fun _ => .int i
theorem ej_bl {b : Bool} {j} : EJ X W Γx Γ n [] (.Constant (.bool b) j pos) (eC (.bl b)) .own := ej_c pe_bl fun _ => .bl b
theorem ej_non {j} : EJ X W Γx Γ n [] (.Constant .none j pos) (eC .non) .own := ej_c pe_non fun _ => .non
inductive SV : V → D → Prop
 | non : SV .non .non
 | bl (b : Bool) : SV (.bl b) (.bl b)
 | int (i : Int) : SV (.int i) (.int i)
 | str (x : Str) : SV (.str x) (.str x)
theorem SV.vr {K : PySem.W.Frag} {cl : CE} {H : Hp} {lab : Labs} {v : V} {d : D} {t : Lab} (h : SV v d) : VR K cl H lab .own t v d := by
 cases h
 · exact .of_nil .non
 · exact .of_nil (.bl _)
 · exact .of_nil (.int _)
 · exact .of_nil (.str _)
def eBin (f : D → D → Option D) (ga gb : List D → ER D) : List D → ER D := fun σ => (ga σ).bind fun x σ1 => (gb σ1).bind fun y σ2 => ofO (f x y) σ2
def ScalOp (f : D → D → Option D) (r : R2) : Prop := ∀ x y z, f x y = some z → ∃ zv, SV zv z ∧ ∀ (K : PySem.W.Frag) (cl : CE) (H H1 H2 : Hp) (lab lab1 : Labs) (k k1 : Kd) (t t1 : Lab) (v w : V) (Q : VK), VR K cl H lab k t v x → VR K cl H1 lab1 k1 t1 w y → Q zv H2 → r v w H2 Q
theorem bin_imp {f : D → D → Option D} {r : R2} {ta tb : TE} {ga gb : List D → ER D} {k k1 : Kd} (hf : ScalOp f r) (ha : ∀ σ H Q, rdE X W Γx Γ n m1 k ga σ H Q → ta σ H Q) (hb : ∀ σ H Q, rdE X W Γx Γ n m2 k1 gb σ H Q → tb σ H Q) (σ : St) (H : Hp) (Q : VK) (h : rdE X W Γx Γ n (m1 ++ m2) .own (eBin f ga gb) σ H Q) : tOp r ta tb σ H Q := by
 obtain ⟨σD, lab, g, sr, po⟩ := h
 refine ha _ _ _ ⟨σD, lab, g, sr, po.seq' fun x σD1 v H1 lab1 sr1 pr1 rl1 po1 => ?_⟩
 refine hb _ _ _ ⟨σD1, lab1, g, sr1, po1.last fun y σD2 w H2 lab2 sr2 pr2 rl2 po2 => ?_⟩
 obtain ⟨z, e, q⟩ := po2.done
 obtain ⟨zv, sv, hr⟩ := hf x y z e
 exact hr _ _ _ _ _ _ _ _ _ _ _ _ _ _ rl1 rl2 (q zv _ _ sr2 (.refl _ _ _ _) sv.vr)
theorem ej_bin {a b : Expr} {op : Operator} {f : D → D → Option D} {r : R2} {ga gb : List D → ER D} {k k1 : Kd} (hf : ScalOp f r) (ho : OpR X (binaryOp op) r) (ha : EJ X W Γx Γ n m1 a ga k) (hb : EJ X W Γx Γ n m2 b gb k1) : EJ X W Γx Γ n (m1 ++ m2) (.BinOp a op b pos) (eBin f ga gb) .own :=
 pe_imp (pe_op ho ha hb) fun σ H Q h => bin_imp hf (fun _ _ _ q => q) (fun _ _ _ q => q) σ H Q h
theorem ej_cmp {a b : Expr} {op : CmpOp} {f : D → D → Option D} {r : R2} {ga gb : List D → ER D} {k k1 : Kd} (hf : ScalOp f r) (ho : OpR X (compareOp op) r) (ha : EJ X W Γx Γ n m1 a ga k) (hb : EJ X W Γx Γ n m2 b gb k1) (hm : behindInMarks op b = false) : EJ X W Γx Γ n (m1 ++ m2) (.Compare a [op] [b] pos) (eBin f ga gb) .own :=
 pe_imp (pe_cmpR ho ha hb hm) fun σ H Q h => bin_imp hf (fun _ _ _ q => q) (fun _ _ _ q => q) σ H Q h
end
end Ow
namespace Ow
open PySem PySem.Spec PyProof.Rows L2
def mulOk (i j : Int) : Bool := decide (-(2 ^ 64) < i ∧ i < 2 ^ 64) || decide (-(2 ^ 64) < j ∧ j < 2 ^ 64) || decide (i.natAbs.log2 + j.natAbs.log2 < 1000000)
def divOk (j : Int) : Bool := decide (j ≠ 0) && decide (j.natAbs.log2 < 9000)
def powOk (i j : Int) : Bool := decide (0 ≤ j) && decide (j ≤ 1000000) && decide (i.natAbs < 2 ^ 64)
def dAdd : D → D → Option D
 | .int i, .int j => some (.int (i + j))
 | _, _ => none
def dSub : D → D → Option D
 | .int i, .int j => some (.int (i - j))
 | _, _ => none
def dMul : D → D → Option D
 | .int i, .int j => if mulOk i j = true then some (.int (i * j)) else none
 | _, _ => none
def dDiv : D → D → Option D
 | .int i, .int j => if divOk j = true then some (.int (i.fdiv j)) else none
 | _, _ => none
def dMod : D → D → Option D
 | .int i, .int j => if j ≠ 0 then some (.int (i.fmod j)) else none
 | _, _ => none
def dPow : D → D → Option D
 | .int i, .int j => if powOk i j = true then some (.int (i ^ j.toNat)) else none
 | _, _ => none
def dLt : D → D → Option D
 | .int i, .int j => some (.bl (decide (i < j)))
 | _, _ => none
def dLe : D → D → Option D
 | .int i, .int j => some (.bl (decide (i ≤ j)))
 | _, _ => none
def dGt : D → D → Option D
 | .int i, .int j => some (.bl (decide (j < i)))
 | _, _ => none
def dGe : D → D → Option D
 | .int i, .int j => some (.bl (decide (j ≤ i)))
 | _, _ => none
def CFdiv (i j : Int) : Prop := j ≠ 0 ∧ j.natAbs.log2 < 9000
theorem op_fdivA {X : Cx} : OpR X (binaryOp .FloorDiv) (rI CFdiv fun i j => .int (i.fdiv j)) := opI fun i j _ _ _ _ _ hc q => floordiv_int hc.1 q (.inl (PyProof.noPylong_of_log2 hc.2))
theorem op_mulA {X : Cx} : OpR X (binaryOp .Mult) (rI (fun i j => CMul i j ∨ CMulW i j) fun i j => .int (i * j)) := opI fun i j _ _ _ _ _ hc q => mul_int q (hc.elim CMul.ok CMulW.ok)
theorem scal_int2 {f : D → D → Option D} {C : Int → Int → Prop} {g : Int → Int → V} {gd : Int → Int → D} (h : ∀ x y z, f x y = some z → ∃ i j, x = .int i ∧ y = .int j ∧ C i j ∧ z = gd i j) (hg : ∀ i j, SV (g i j) (gd i j)) : ScalOp f (rI C g) := fun x y z e => by
 obtain ⟨i, j, rfl, rfl, c, rfl⟩ := h x y z e
 refine ⟨g i j, hg i j, fun _ _ _ _ _ _ _ _ _ _ _ v w Q h1 h2 q => ?_⟩
 have e1 := h1.int
 have e2 := h2.int
 subst e1 e2
 exact ⟨i, j, rfl, rfl, c, q⟩
theorem scal_int0 {f : D → D → Option D} {g : Int → Int → V} {gd : Int → Int → D} (h : ∀ x y z, f x y = some z → ∃ i j, x = .int i ∧ y = .int j ∧ z = gd i j) (hg : ∀ i j, SV (g i j) (gd i j)) : ScalOp f (rI0 g) := fun x y z e => by
 obtain ⟨i, j, rfl, rfl, rfl⟩ := h x y z e
 refine ⟨g i j, hg i j, fun _ _ _ _ _ _ _ _ _ _ _ v w Q h1 h2 q => ?_⟩
 have e1 := h1.int
 have e2 := h2.int
 subst e1 e2
 exact ⟨i, j, rfl, rfl, q⟩
theorem so_add : ScalOp dAdd (rI0 fun i j => .int (i + j)) := scal_int0 (gd := fun i j => .int (i + j)) (fun x y z e => by
 cases x <;> cases y <;> simp [dAdd] at e
 exact ⟨_, _, rfl, rfl, e.symm⟩) fun _ _ => .int _
theorem so_sub : ScalOp dSub (rI0 fun i j => .int (i - j)) := scal_int0 (gd := fun i j => .int (i - j)) (fun x y z e => by
 cases x <;> cases y <;> simp [dSub] at e
 exact ⟨_, _, rfl, rfl, e.symm⟩) fun _ _ => .int _
theorem so_lt : ScalOp dLt (rI0 fun i j => .bl (decide (i < j))) := scal_int0 (gd := fun i j => .bl (decide (i < j))) (fun x y z e => by
 cases x <;> cases y <;> simp [dLt] at e
 exact ⟨_, _, rfl, rfl, e.symm⟩) fun _ _ => .bl _
theorem so_le : ScalOp dLe (rI0 fun i j => .bl (decide (i ≤ j))) := scal_int0 (gd := fun i j => .bl (decide (i ≤ j))) (fun x y z e => by
 cases x <;> cases y <;> simp [dLe] at e
 exact ⟨_, _, rfl, rfl, e.symm⟩) fun _ _ => .bl _
theorem so_gt : ScalOp dGt (rI0 fun i j => .bl (decide (j < i))) := scal_int0 (gd := fun i j => .bl (decide (j < i))) (fun x y z e => by
 cases x <;> cases y <;> simp [dGt] at e
 exact ⟨_, _, rfl, rfl, e.symm⟩) fun _ _ => .bl _
theorem so_ge : ScalOp dGe (rI0 fun i j => .bl (decide (j ≤ i))) := scal_int0 (gd := fun i j => .bl (decide (j ≤ i))) (fun x y z e => by
 cases x <;> cases y <;> simp [dGe] at e
 exact ⟨_, _, rfl, rfl, e.symm⟩) fun _ _ => .bl _
theorem so_mul : ScalOp dMul (rI (fun i j => CMul i j ∨ CMulW i j) fun i j => .int (i * j)) := scal_int2 (gd := fun i j => .int (i * j)) (fun x y z e => by
 cases x <;> cases y <;> simp [dMul] at e
 refine ⟨_, _, rfl, rfl, ?_, e.2.symm⟩
 have h := e.1
 simp only [mulOk, Bool.or_eq_true, decide_eq_true_eq] at h
 rcases h with (h | h) | h
 · exact .inl (.inl h)
 · exact .inl (.inr h)
 · exact .inr h) fun _ _ => .int _
theorem so_div : ScalOp dDiv (rI CFdiv fun i j => .int (i.fdiv j)) := scal_int2 (gd := fun i j => .int (i.fdiv j)) (fun x y z e => by
 cases x <;> cases y <;> simp [dDiv] at e
 refine ⟨_, _, rfl, rfl, ?_, e.2.symm⟩
 have h := e.1
 simp only [divOk, Bool.and_eq_true, decide_eq_true_eq] at h
 exact h) fun _ _ => .int _
theorem so_mod : ScalOp dMod (rI (fun _ j => j ≠ 0) fun i j => .int (i.fmod j)) := scal_int2 (gd := fun i j => .int (i.fmod j)) (fun x y z e => by
 cases x <;> cases y <;> simp [dMod] at e
 exact ⟨_, _, rfl, rfl, e.1, e.2.symm⟩) fun _ _ => .int _
theorem so_pow : ScalOp dPow (rI CPow fun i j => .int (i ^ j.toNat)) := scal_int2 (gd := fun i j => .int (i ^ j.toNat)) (fun x y z e => by
 cases x <;> cases y <;> simp [dPow] at e
 refine ⟨_, _, rfl, rfl, ?_, e.2.symm⟩
 have h := e.1
 simp only [powOk, Bool.and_eq_true, decide_eq_true_eq] at h
 exact ⟨h.1.1, h.1.2, h.2⟩) fun _ _ => .int _
section
variable {X : Cx} {W : WX} {Γx Γ : Ctx} {n : Nat} {m m1 m2 : List Nat} {pos : Pos} {a b : Expr} {ga gb : List D → ER D} {k k1 : Kd}
theorem ej_add (ha : EJ X W Γx Γ n m1 a ga k) (hb : EJ X W Γx Γ n m2 b gb k1) : EJ X W Γx Γ n (m1 ++ m2) (.BinOp a .Add b pos) (eBin dAdd ga gb) .own := ej_bin so_add op_add ha hb
theorem ej_sub (ha : EJ X W Γx Γ n m1 a ga k) (hb : EJ X W Γx Γ n m2 b gb k1) : EJ X W Γx Γ n (m1 ++ m2) (.BinOp a .Sub b pos) (eBin dSub ga gb) .own := ej_bin so_sub op_sub ha hb
theorem ej_mul (ha : EJ X W Γx Γ n m1 a ga k) (hb : EJ X W Γx Γ n m2 b gb k1) : EJ X W Γx Γ n (m1 ++ m2) (.BinOp a .Mult b pos) (eBin dMul ga gb) .own := ej_bin so_mul op_mulA ha hb
theorem ej_div (ha : EJ X W Γx Γ n m1 a ga k) (hb : EJ X W Γx Γ n m2 b gb k1) : EJ X W Γx Γ n (m1 ++ m2) (.BinOp a .FloorDiv b pos) (eBin dDiv ga gb) .own := ej_bin so_div op_fdivA ha hb
theorem ej_mod (ha : EJ X W Γx Γ n m1 a ga k) (hb : EJ X W Γx Γ n m2 b gb k1) : EJ X W Γx Γ n (m1 ++ m2) (.BinOp a .Mod b pos) (eBin dMod ga gb) .own := ej_bin so_mod op_modN ha hb
theorem ej_pow (ha : EJ X W Γx Γ n m1 a ga k) (hb : EJ X W Γx Γ n m2 b gb k1) : EJ X W Γx Γ n (m1 ++ m2) (.BinOp a .Pow b pos) (eBin dPow ga gb) .own := ej_bin so_pow op_pow ha hb
theorem ej_ge (ha : EJ X W Γx Γ n m1 a ga k) (hb : EJ X W Γx Γ n m2 b gb k1) : EJ X W Γx Γ n (m1 ++ m2) (.Compare a [.GtE] [b] pos) (eBin dGe ga gb) .own := ej_cmp so_ge op_ge ha hb (nomark _)
end
def eUn (f : D → Option D) (ga : List D → ER D) : List D → ER D := fun σ => (ga σ).bind fun x σ1 => ofO (f x) σ1
def dNeg : D → Option D
 | .int i => some (.int (-i))
 | _ => none
section
variable {X : Cx} {W : WX} {Γx Γ : Ctx} {n : Nat} {m m1 m2 : List Nat} {pos : Pos} {a b : Expr} {ga gb : List D → ER D} {k k1 : Kd}
def tOf (g : List D → ER D) : List D → ER Bool := fun σ => (g σ).bind fun d σ1 => match d with
 | .bl b => .ok b σ1
 | _ => .stuck
theorem tof_imp {tc : TE} {g : List D → ER D} (ha : ∀ σ H Q, rdE X W Γx Γ n m k g σ H Q → tc σ H Q) (σ : St) (H : Hp) (Q : Bool → Hp → Prop) (h : rdT X W Γx Γ n m (tOf g) σ H Q) : tTest tc σ H Q := by
 obtain ⟨σD, lab, gg, sr, po⟩ := h
 refine ha _ _ _ ⟨σD, lab, gg, sr, po.last fun x σD1 v H1 lab1 sr1 pr1 rl1 po1 => ?_⟩
 cases x with
 | bl b =>
  have e1 := rl1.bl
  subst e1
  exact ⟨b, rfl, po1 b H1 lab1 sr1 (.refl _ _ _ _) rfl⟩
 | _ => exact po1.elim
theorem tj_cmp {op : CmpOp} {f : D → D → Option D} {r : R2} (hf : ScalOp f r) (ho : OpR X (compareOp op) r) (ha : EJ X W Γx Γ n m1 a ga k) (hb : EJ X W Γx Γ n m2 b gb k1) (hm : behindInMarks op b = false) : TJ X W Γx Γ n (m1 ++ m2) (.Compare a [op] [b] pos) (tOf (eBin f ga gb)) :=
 pt_imp (pt_cmpR ho ha hb hm) fun σ H Q h => tof_imp (fun σ H Q q => bin_imp hf (fun _ _ _ q => q) (fun _ _ _ q => q) σ H Q q) σ H Q h
theorem tj_lt (ha : EJ X W Γx Γ n m1 a ga k) (hb : EJ X W Γx Γ n m2 b gb k1) : TJ X W Γx Γ n (m1 ++ m2) (.Compare a [.Lt] [b] pos) (tOf (eBin dLt ga gb)) := tj_cmp so_lt op_lt ha hb (nomark _)
theorem tj_le (ha : EJ X W Γx Γ n m1 a ga k) (hb : EJ X W Γx Γ n m2 b gb k1) : TJ X W Γx Γ n (m1 ++ m2) (.Compare a [.LtE] [b] pos) (tOf (eBin dLe ga gb)) := tj_cmp so_le op_le ha hb (nomark _)
theorem tj_gt (ha : EJ X W Γx Γ n m1 a ga k) (hb : EJ X W Γx Γ n m2 b gb k1) : TJ X W Γx Γ n (m1 ++ m2) (.Compare a [.Gt] [b] pos) (tOf (eBin dGt ga gb)) := tj_cmp so_gt op_gt ha hb (nomark _)
def D.truth : D → Option Bool
 | .non => some false
 | .bl b => some b
 | .int i => some (i != 0)
 | .str x => if x.length ≤ sizeLine then some ((x.length : Int) != 0) else none
 | .tup ds => some (!ds.isEmpty)
 | .lst ds => some (!ds.isEmpty)
 | .dK kvs => some (!kvs.isEmpty)
 | _ => none
theorem isEmpty_len {α β : Type} {l : List α} {r : List β} (h : l.length = r.length) : l.isEmpty = r.isEmpty := by
 cases l <;> cases r <;> simp_all
theorem VR.truth {K : PySem.W.Frag} {cl : CE} {H : Hp} {lab : Labs} {k : Kd} {t : Lab} {v : V} {d : D} {b : Bool} (hv : VR K cl H lab k t v d) (e : d.truth = some b) : TruV K v H b := by
 obtain ⟨fp, r⟩ := hv.rp (by cases d <;> first | rfl | cases e)
 cases r with
 | non => simp [D.truth] at e; exact (show b = false from e)
 | bl c => simp [D.truth] at e; exact e.symm
 | int i => simp [D.truth] at e; exact e.symm
 | str x =>
  simp [D.truth] at e
  exact ⟨e.1, by rw [← e.2]⟩
 | tup h r =>
  simp only [D.truth, Option.some.injEq] at e
  exact .inr (.inl ⟨_, h, by rw [← e, isEmpty_len r.len]⟩)
 | lst h r =>
  simp only [D.truth, Option.some.injEq] at e
  exact .inl ⟨_, .of h, by rw [← e, isEmpty_len r.len]⟩
 | lsf h r => simp [D.truth] at e
 | dK h kk r =>
  simp only [D.truth, Option.some.injEq] at e
  have := r.len
  rw [List.length_map, List.length_map] at this
  exact .inr (.inr ⟨_, h, by rw [← e, isEmpty_len this]⟩)
 | dT h ok hk kk hv r => simp [D.truth] at e
 | ins c h kk r => simp [D.truth] at e
 | fzk h kk r => simp [D.truth] at e
 | fzt h ok hk kk hv r hne => simp [D.truth] at e
def tTru (g : List D → ER D) : List D → ER Bool := fun σ => (g σ).bind fun d σ1 => ofO d.truth σ1
theorem tj_truth (ha : EJ X W Γx Γ n m a ga k) (he : ∀ whole, isTrue a X.env whole = (do let v ← whole; standAt a.pos; holding [v] (truthy v)) := by intro _; rfl) : TJ X W Γx Γ n m a (tTru ga) := by
 refine pt_imp (pt_truth ha he) fun σ H Q h => ?_
 obtain ⟨σD, lab, g, sr, po⟩ := h
 refine ⟨σD, lab, g, sr, po.last fun x σD1 v H1 lab1 sr1 pr1 rl1 po1 => ?_⟩
 obtain ⟨z, e, q⟩ := po1.done
 exact ⟨z, rl1.truth e, q z H1 lab1 sr1 (.refl _ _ _ _) rfl⟩
def tNotD (g : List D → ER Bool) : List D → ER Bool := fun σ => (g σ).bind fun b σ1 => .ok (!b) σ1
theorem tj_not {g : List D → ER Bool} (ha : TJ X W Γx Γ n m a g) : TJ X W Γx Γ n m (.UnaryOp .Not a pos) (tNotD g) := by
 refine pt_imp (pt_not ha) fun σ H Q h => ?_
 obtain ⟨σD, lab, gg, sr, po⟩ := h
 refine ⟨σD, lab, gg, sr, po.last fun x σD1 v H1 lab1 sr1 pr1 rl1 po1 => ?_⟩
 subst rl1
 exact po1 _ H1 lab1 sr1 (.refl _ _ _ _) rfl
def tAndD (g h : List D → ER Bool) : List D → ER Bool := fun σ => (g σ).bind fun b σ1 => if b = true then h σ1 else .ok false σ1
def tOrD (g h : List D → ER Bool) : List D → ER Bool := fun σ => (g σ).bind fun b σ1 => if b = true then .ok true σ1 else h σ1
abbrev WJ (X : Cx) (W : WX) (Γx Γ : Ctx) (n : Nat) (m : List Nat) (e : Expr) (g : List D → ER Bool) : Prop := PW X e (rdT X W Γx Γ n m g)
theorem pw_imp {X : Cx} {e : Expr} {t u : TT} (h : PW X e t) (i : ∀ σ H Q, u σ H Q → t σ H Q) : PW X e u := ⟨fun wh pins s σ H Q I q => h.run wh pins s σ H Q I (i σ H Q q)⟩
variable {rest : List Expr} {tg th : List D → ER Bool}
theorem wj_or1 (ha : TJ X W Γx Γ n m a tg) : WJ X W Γx Γ n m (.BoolOp .Or [a] pos) tg := pw_or1 ha
theorem wj_or (ha : TJ X W Γx Γ n m1 a tg) (hb : WJ X W Γx Γ n m2 (.BoolOp .Or (b :: rest) pos) th) : WJ X W Γx Γ n (m1 ++ m2) (.BoolOp .Or (a :: b :: rest) pos) (tOrD tg th) := by
 refine pw_imp (pw_or ha hb) fun σ H Q h => ?_
 obtain ⟨σD, lab, gg, sr, po⟩ := h
 refine ⟨σD, lab, gg, sr, po.seq' fun x σD1 v H1 lab1 sr1 pr1 rl1 po1 => ?_⟩
 subst rl1
 cases v with
 | true => exact po1 _ H1 lab1 sr1 (.refl _ _ _ _) rfl
 | false => exact ⟨σD1, lab1, gg, sr1, po1⟩
theorem tj_of_w (h : WJ X W Γx Γ n m a tg) : TJ X W Γx Γ n m a tg := PW.pt h
def eAnd (g h : List D → ER D) : List D → ER D := fun σ => (g σ).bind fun d σ1 => match d with
 | .bl true => h σ1
 | .bl false => .ok (.bl false) σ1
 | _ => .stuck
def eOr (g h : List D → ER D) : List D → ER D := fun σ => (g σ).bind fun d σ1 => match d with
 | .bl true => .ok (.bl true) σ1
 | .bl false => h σ1
 | _ => .stuck
theorem ej_one {op} (ha : EJ X W Γx Γ n m a ga k) : EJ X W Γx Γ n m (.BoolOp op [a] pos) ga k := pe_one ha
theorem ej_and (ha : EJ X W Γx Γ n m1 a ga k) (hb : EJ X W Γx Γ n m2 (.BoolOp .And (b :: rest) pos) gb .own) : EJ X W Γx Γ n (m1 ++ m2) (.BoolOp .And (a :: b :: rest) pos) (eAnd ga gb) .own := by
 refine pe_imp (pe_and ha hb) fun σ H Q h => ?_
 obtain ⟨σD, lab, gg, sr, po⟩ := h
 refine ⟨σD, lab, gg, sr, po.seq' fun x σD1 v H1 lab1 sr1 pr1 rl1 po1 => ?_⟩
 cases x with
 | bl c =>
  have e1 := rl1.bl
  subst e1
  refine ⟨c, rfl, ?_⟩
  cases c with
  | true => exact ⟨σD1, lab1, gg, sr1, po1⟩
  | false => exact po1 _ H1 lab1 sr1 (.refl _ _ _ _) (SV.bl _).vr
 | _ => exact po1.elim
def dNot : D → Option D
 | .bl b => some (.bl (!b))
 | _ => none
def eIf (t : List D → ER Bool) (g h : List D → ER D) : List D → ER D := fun σ => (t σ).bind fun b σ1 => if b = true then g σ1 else h σ1
theorem ej_if {c : Expr} {m3 : List Nat} (hc : TJ X W Γx Γ n m1 c tg) (ha : EJ X W Γx Γ n m2 a ga k) (hb : EJ X W Γx Γ n m3 b gb k) : EJ X W Γx Γ n (m1 ++ (m2 ++ m3)) (.IfExp c a b pos) (eIf tg ga gb) k := by
 refine pe_imp (pe_ifExp hc ha hb) fun σ H Q h => ?_
 obtain ⟨σD, lab, gg, sr, po⟩ := h
 refine ⟨σD, lab, gg, sr, po.seq' fun x σD1 v H1 lab1 sr1 pr1 rl1 po1 => ?_⟩
 subst rl1
 cases v with
 | true => exact ⟨σD1, lab1, gg, sr1, po1.imp (fun _ _ _ _ _ s p r q => q _ _ _ s (p.mono (SubK.left _ _ _)) r) (SubK.left _ _ _) (Nat.le_refl _)⟩
 | false => exact ⟨σD1, lab1, gg, sr1, po1.imp (fun _ _ _ _ _ s p r q => q _ _ _ s (p.mono (SubK.right _ _ _)) r) (SubK.right _ _ _) (Nat.le_refl _)⟩
end
end Ow
namespace Ow
open PySem PySem.Spec PyProof.Rows L2
def subK : Kd → Kd
 | .own => .own
 | .bor R => .bor R
 | .spn R => .bor R
 | .exc R => .bor R
section
variable {K : PySem.W.Frag} {cl : CE} {H H' : Hp} {lab lab' : Labs} {k : Kd} {t : Lab} {v : V} {d : D}
theorem RpL.atI {vs : List V} {ds : List D} {fp : List Addr} {i : Int} (r : RpL K cl H vs ds fp) (h : L2.atI ds i = some d) : ∃ v f, L2.atI vs i = some v ∧ Rp K cl H v d f ∧ f.Sublist fp := by
 unfold L2.atI at h ⊢
 rw [r.len]
 cases e : ixN ds.length i with
 | none => rw [e] at h; cases h
 | some j =>
  rw [e] at h
  exact r.get h
theorem VR.items {ds : List D} (h : VR K cl H lab k t v d) (e : d = .tup ds ∨ d = .lst ds ∨ d = .fzl ds) : ∃ a vs, v = .ref a ∧ (SqL K H a vs ∨ SqT K H a vs) ∧ vs.length = ds.length ∧ ∀ i x, L2.atI ds i = some x → ∃ w, L2.atI vs i = some w ∧ VR K cl H lab (subK k) t w x := by
 cases k with
 | own =>
  obtain ⟨fp, r, nd, l⟩ := h
  have key : ∀ {vs : List V} {fp' : List Addr}, RpL K cl H vs ds fp' → fp'.Sublist fp → ∀ i x, L2.atI ds i = some x → ∃ w, L2.atI vs i = some w ∧ VR K cl H lab .own t w x := fun rr sb i x hx => by
   obtain ⟨w, f, a, b, c⟩ := rr.atI hx
   exact ⟨w, a, f, b, nd.sublist (c.trans sb), fun y hy => l y (sb.subset (c.subset hy))⟩
  rcases e with rfl | rfl | rfl
  · cases r with
    | tup h r => exact ⟨_, _, rfl, .inr h, r.len, key r (List.Sublist.refl _)⟩
  · cases r with
    | lst h r => exact ⟨_, _, rfl, .inl (.of h), r.len, key r (List.sublist_cons_self _ _)⟩
  · cases r with
    | lsf h r => exact ⟨_, _, rfl, .inl h.sql, r.len, key r (List.Sublist.refl _)⟩
 | bor R =>
  obtain ⟨fp, r, l⟩ := h
  have key : ∀ {vs : List V} {fp' : List Addr}, RpL K cl H vs ds fp' → fp'.Sublist fp → ∀ i x, L2.atI ds i = some x → ∃ w, L2.atI vs i = some w ∧ VR K cl H lab (.bor R) t w x := fun rr sb i x hx => by
   obtain ⟨w, f, a, b, c⟩ := rr.atI hx
   exact ⟨w, a, f, b, fun y hy => l y (sb.subset (c.subset hy))⟩
  rcases e with rfl | rfl | rfl
  · cases r with
    | tup h r => exact ⟨_, _, rfl, .inr h, r.len, key r (List.Sublist.refl _)⟩
  · cases r with
    | lst h r => exact ⟨_, _, rfl, .inl (.of h), r.len, key r (List.sublist_cons_self _ _)⟩
  · cases r with
    | lsf h r => exact ⟨_, _, rfl, .inl h.sql, r.len, key r (List.Sublist.refl _)⟩
 | spn R =>
  obtain ⟨a, vs, ds', fp, rfl, rfl, ha, r, la, l⟩ := h
  rcases e with e | e | e
  · cases e
  rotate_left
  · cases e
  · cases e
    refine ⟨_, _, rfl, .inl (.of ha), r.len, fun i x hx => ?_⟩
    obtain ⟨w, f, a, b, c⟩ := r.atI hx
    exact ⟨w, a, f, b, fun y hy => (l y (c.subset hy)).2⟩
 | exc R =>
  obtain ⟨fp, r, l⟩ := h
  cases r <;> rcases e with e | e | e <;> cases e
end
def dIx : D → D → Option D
 | .tup ds, .int i => L2.atI ds i
 | .lst ds, .int i => L2.atI ds i
 | .fzl ds, .int i => L2.atI ds i
 | .str z, .int i => if z.length ≤ sizeLine then (L2.atI z.cps.toList i).map fun c => .str ⟨#[c]⟩ else none
 | _, _ => none
section
variable {X : Cx} {W : WX} {Γx Γ : Ctx} {n : Nat} {m m1 m2 : List Nat} {pos : Pos} {a b : Expr} {ga gb : List D → ER D} {k k1 : Kd}
theorem ej_ix (ha : EJ X W Γx Γ n m1 a ga k) (hb : EJ X W Γx Γ (n + 1) m2 b gb k1) (ok : okK m2 (n + 1) k = true := by decide) (hs : PlainIx b := by exact fun _ _ => rfl) : EJ X W Γx Γ n (m1 ++ m2) (.Subscript a b pos) (eBin dIx ga gb) (subK k) := by
 refine pe_imp (pe_ix ix_seq ha hb hs) fun σ H Q h => ?_
 obtain ⟨σD, lab, g, sr, po⟩ := h
 refine ⟨σD, lab, g, sr, po.seq' fun x σD1 v H1 lab1 sr1 pr1 rl1 po1 => ?_⟩
 refine ⟨σD1, lab1, gok.up g, sr1, po1.seq (SubK.up _ _) (Nat.le_succ _) (SubK.nil _ _) (Nat.le_refl _) fun y σD2 w H2 lab2 sr2 pr2 rl2 po2 => ?_⟩
 have rl1 := VR.pres pr2 rl1 ok (by simp [keepL])
 obtain ⟨z, e, q⟩ := po2.done
 have fin : ∀ {zv : V}, VR X.K (clX X) H2 lab2 (subK k) (.tmp n) zv z → Q zv H2 := fun {zv} hz => q zv H2 lab2 sr2 (.refl _ _ _ _) hz
 cases y with
 | int i =>
  have e2 := rl2.int
  subst e2
  cases x with
  | tup ds =>
   obtain ⟨p, vs, rfl, hq, _, hi⟩ := rl1.items (.inl rfl)
   obtain ⟨zv, hz, r⟩ := hi i z e
   rcases hq with hq | hq
   · exact .inl ⟨p, vs, i, zv, rfl, rfl, hq, hz, fin r⟩
   · exact .inr (.inl ⟨p, vs, i, zv, rfl, rfl, hq, hz, fin r⟩)
  | lst ds =>
   obtain ⟨p, vs, rfl, hq, _, hi⟩ := rl1.items (.inr (.inl rfl))
   obtain ⟨zv, hz, r⟩ := hi i z e
   rcases hq with hq | hq
   · exact .inl ⟨p, vs, i, zv, rfl, rfl, hq, hz, fin r⟩
   · exact .inr (.inl ⟨p, vs, i, zv, rfl, rfl, hq, hz, fin r⟩)
  | fzl ds =>
   obtain ⟨p, vs, rfl, hq, _, hi⟩ := rl1.items (.inr (.inr rfl))
   obtain ⟨zv, hz, r⟩ := hi i z e
   rcases hq with hq | hq
   · exact .inl ⟨p, vs, i, zv, rfl, rfl, hq, hz, fin r⟩
   · exact .inr (.inl ⟨p, vs, i, zv, rfl, rfl, hq, hz, fin r⟩)
  | str s =>
   have e1 := rl1.str
   subst e1
   simp only [dIx] at e
   split at e
   · rename_i hz
     rw [Option.map_eq_some_iff] at e
     obtain ⟨c, hc, rfl⟩ := e
     refine .inr (.inr ⟨s, i, c, rfl, rfl, hz, hc, fin ?_⟩)
     have q2 : VR X.K (clX X) H2 lab2 .own (.tmp n) (.str ⟨#[c]⟩) (.str ⟨#[c]⟩) := (SV.str _).vr
     obtain ⟨fp, r, nd, l⟩ := q2
     cases k with
     | own => exact ⟨fp, r, nd, l⟩
     | bor R => exact ⟨[], by cases r; exact .str _, by simp⟩
     | spn R => exact ⟨[], by cases r; exact .str _, by simp⟩
     | exc R => exact ⟨[], by cases r; exact .str _, by simp⟩
   · cases e
  | _ => simp [dIx] at e
 | _ => cases x <;> simp [dIx] at e
end
inductive AK where
 | val (k : Kd) | slot (r : Nat)
def AR (X : Cx) (σ : St) (σD : List D) (H : Hp) (lab : Labs) : Nat → List AK → List V → List D → Prop
 | _, [], vs, ds => vs = [] ∧ ds = []
 | n, .val k :: ks, vs, ds => ∃ v vs' d ds', vs = v :: vs' ∧ ds = d :: ds' ∧ VR X.K (clX X) H lab k (.tmp n) v d ∧ AR X σ σD H lab (n + 1) ks vs' ds'
 | n, .slot r :: ks, vs, ds => ∃ v vs' ds', vs = v :: vs' ∧ ds = σD.getD r .non :: ds' ∧ σ[r]? = some (some v) ∧ AR X σ σD H lab (n + 1) ks vs' ds'
abbrev relA (X : Cx) (σ : St) (n : Nat) (ks : List AK) : Rel (List V) (List D) := fun σD H lab vs ds => AR X σ σD H lab n ks vs ds
def rdA (X : Cx) (W : WX) (Γx Γ : Ctx) (n : Nat) (m : List Nat) (ks : List AK) (g : List D → ER (List D)) : TA := fun σ H Q => ∃ σD lab, gok Γ n = true ∧ SR X Γ σ H lab σD ∧ Post X W Γx Γ σ m n (relA X σ n ks) H lab Q (g σD)
abbrev AJ (X : Cx) (W : WX) (Γx Γ : Ctx) (n : Nat) (m : List Nat) (es : List Expr) (g : List D → ER (List D)) (ks : List AK) : Prop := PA X es (rdA X W Γx Γ n m ks g)
def aNil : List D → ER (List D) := fun σ => .ok [] σ
def aCons (g : List D → ER D) (gs : List D → ER (List D)) : List D → ER (List D) := fun σ => (g σ).bind fun d σ1 => (gs σ1).bind fun ds σ2 => .ok (d :: ds) σ2
def aSlot (r : Nat) (gs : List D → ER (List D)) : List D → ER (List D) := fun σ => (gs σ).bind fun ds σ2 => .ok (σ2.getD r .non :: ds) σ2
section
variable {X : Cx} {W : WX} {Γx Γ : Ctx} {n : Nat} {m m1 m2 : List Nat} {pos : Pos} {e : Expr} {es : List Expr} {g : List D → ER D} {gs : List D → ER (List D)} {k : Kd} {ks : List AK}
theorem aj_nil : AJ X W Γx Γ n [] [] aNil [] := by
 refine pa_imp pa_nil fun σ H Q h => ?_
 obtain ⟨σD, lab, gg, sr, po⟩ := h
 exact po [] H lab sr (.refl _ _ _ _) ⟨rfl, rfl⟩
theorem aj_cons (ha : EJ X W Γx Γ n m1 e g k) (hr : AJ X W Γx Γ (n + 1) m2 es gs ks) (ok : okK m2 (n + 1) k = true := by decide) (hs : starEach (e :: es) X.env = (false, eval e X.env) :: starEach es X.env := by rfl) : AJ X W Γx Γ n (m1 ++ m2) (e :: es) (aCons g gs) (.val k :: ks) := by
 refine pa_imp (pa_cons ha hr hs) fun σ H Q h => ?_
 obtain ⟨σD, lab, gg, sr, po⟩ := h
 refine ⟨σD, lab, gg, sr, po.seq' fun x σD1 v H1 lab1 sr1 pr1 rl1 po1 => ?_⟩
 refine ⟨σD1, lab1, gok.up gg, sr1, po1.seq (SubK.up _ _) (Nat.le_succ _) (SubK.nil _ _) (Nat.le_refl _) fun ds σD2 vs H2 lab2 sr2 pr2 rl2 po2 => ?_⟩
 exact po2 _ H2 lab2 sr2 (.refl _ _ _ _) ⟨v, vs, x, ds, rfl, rfl, VR.pres pr2 rl1 ok (by simp [keepL]), rl2⟩
theorem aj_slot {r : Nat} {x : Str} (hΓ : Γ[r]? = some (some .own)) (hv : PE X (.Name x pos) (tVar r)) (hr : AJ X W Γx Γ (n + 1) m es gs ks) (hs : starEach (.Name x pos :: es) X.env = (false, eval (.Name x pos) X.env) :: starEach es X.env := by rfl) : AJ X W Γx Γ n m (.Name x pos :: es) (aSlot r gs) (.slot r :: ks) := by
 refine pa_imp (pa_cons hv hr hs) fun σ H Q h => ?_
 obtain ⟨σD, lab, gg, sr, po⟩ := h
 obtain ⟨v, hv, _⟩ := sr.get hΓ
 refine ⟨v, hv, σD, lab, gok.up gg, sr, po.seq (SubK.up _ _) (Nat.le_succ _) (SubK.nil _ _) (Nat.le_refl _) fun ds σD2 vs H2 lab2 sr2 pr2 rl2 po2 => ?_⟩
 exact po2 _ H2 lab2 sr2 (.refl _ _ _ _) ⟨v, vs, ds, rfl, rfl, hv, rl2⟩
def ownA : AK → Bool
 | .val .own => true
 | _ => false
def labsA : AK → List Lab
 | .val (.bor R) => R
 | .val (.spn R) => R
 | .val (.exc R) => R
 | _ => []
def unionR (ks : List AK) : List Lab := ks.flatMap labsA
def valA : AK → Bool
 | .val (.exc _) => false
 | .val _ => true
 | _ => false
theorem AR.own {σ : St} {σD : List D} {H : Hp} {lab : Labs} : ∀ {ks : List AK} {n : Nat} {vs : List V} {ds : List D}, AR X σ σD H lab n ks vs ds → ks.all ownA = true → ∃ fp, RpL X.K (clX X) H vs ds fp ∧ fp.Nodup ∧ ∀ a ∈ fp, ∃ j, n ≤ j ∧ lab a = .tmp j
 | [], n, _, _, ⟨e1, e2⟩, _ => by
  subst e1 e2
  exact ⟨[], .nil, List.nodup_nil, by simp⟩
 | .val .own :: ks, n, _, _, ⟨v, vs', d, ds', e1, e2, r, h⟩, o => by
  subst e1 e2
  obtain ⟨f1, r1, nd1, l1⟩ := r
  obtain ⟨f2, r2, nd2, l2⟩ := AR.own (n := n + 1) h (by simpa [ownA] using o)
  refine ⟨f1 ++ f2, .cons r1 r2, ?_, fun a ha => ?_⟩
  · rw [List.nodup_append]
    refine ⟨nd1, nd2, fun a ha b hb e => ?_⟩
    subst e
    obtain ⟨j, hj, e⟩ := l2 a hb
    rw [l1 a ha] at e
    cases e
    omega
  · rcases List.mem_append.mp ha with q | q
    · exact ⟨n, Nat.le_refl _, l1 a q⟩
    · obtain ⟨j, hj, e⟩ := l2 a q
      exact ⟨j, by omega, e⟩
 | .val (.bor R) :: ks, n, _, _, _, o => by simp [ownA] at o
 | .val (.spn R) :: ks, n, _, _, _, o => by simp [ownA] at o
 | .val (.exc R) :: ks, n, _, _, _, o => by simp [ownA] at o
 | .slot r :: ks, n, _, _, _, o => by simp [ownA] at o
theorem AR.mix {σ : St} {σD : List D} {H : Hp} {lab : Labs} : ∀ {ks : List AK} {n : Nat} {vs : List V} {ds : List D}, AR X σ σD H lab n ks vs ds → ks.all valA = true → ∃ fp, RpL X.K (clX X) H vs ds fp ∧ ∀ a ∈ fp, (∃ j, n ≤ j ∧ lab a = .tmp j) ∨ bw (unionR ks) (lab a)
 | [], n, _, _, ⟨e1, e2⟩, _ => by
  subst e1 e2
  exact ⟨[], .nil, by simp⟩
 | .val k :: ks, n, _, _, ⟨v, vs', d, ds', e1, e2, r, h⟩, o => by
  subst e1 e2
  rw [List.all_cons, Bool.and_eq_true] at o
  obtain ⟨f2, r2, l2⟩ := AR.mix (n := n + 1) h o.2
  have tail : ∀ a ∈ f2, (∃ j, n ≤ j ∧ lab a = .tmp j) ∨ bw (unionR (.val k :: ks)) (lab a) := fun a ha => by
   rcases l2 a ha with ⟨j, hj, e⟩ | q | q
   · exact .inl ⟨j, by omega, e⟩
   · exact .inr (.inl q)
   · exact .inr (.inr (List.mem_flatMap.mpr (by
      obtain ⟨x, hx, e⟩ := List.mem_flatMap.mp q
      exact ⟨x, List.mem_cons_of_mem _ hx, e⟩)))
  have hd : ∀ {R : List Lab}, labsA (.val k) = R → ∀ l, bw R l → bw (unionR (.val k :: ks)) l := fun e l q => q.elim .inl fun z => .inr (List.mem_flatMap.mpr ⟨_, List.mem_cons_self, by rw [e]; exact z⟩)
  cases k with
  | own =>
   obtain ⟨f1, r1, nd1, l1⟩ := r
   exact ⟨f1 ++ f2, .cons r1 r2, fun a ha => (List.mem_append.mp ha).elim (fun q => .inl ⟨n, Nat.le_refl _, l1 a q⟩) (tail a)⟩
  | bor R =>
   obtain ⟨f1, r1, l1⟩ := r
   exact ⟨f1 ++ f2, .cons r1 r2, fun a ha => (List.mem_append.mp ha).elim (fun q => .inr (hd (R := R) rfl _ (l1 a q))) (tail a)⟩
  | spn R =>
   obtain ⟨a0, ws, es, f1, rfl, rfl, ha0, r1, la, l1⟩ := r
   refine ⟨(a0 :: f1) ++ f2, .cons (.lst ha0 r1) r2, fun a ha => (List.mem_append.mp ha).elim (fun q => ?_) (tail a)⟩
   rcases List.mem_cons.mp q with q | q
   · exact .inl ⟨n, Nat.le_refl _, by rw [q]; exact la⟩
   · exact .inr (hd (R := R) rfl _ (l1 a q).2)
  | exc R => cases o.1
 | .slot r :: ks, n, _, _, _, o => by simp [valA] at o
theorem AR.len {σ : St} {σD : List D} {H : Hp} {lab : Labs} : ∀ {ks : List AK} {n : Nat} {vs : List V} {ds : List D}, AR X σ σD H lab n ks vs ds → vs.length = ks.length ∧ ds.length = ks.length
 | [], n, _, _, ⟨e1, e2⟩ => by subst e1 e2; exact ⟨rfl, rfl⟩
 | .val k :: ks, n, _, _, ⟨v, vs', d, ds', e1, e2, r, h⟩ => by
  subst e1 e2
  have := AR.len h
  simp [this.1, this.2]
 | .slot _ :: ks, n, _, _, ⟨v, vs', ds', e1, e2, r, h⟩ => by
  subst e1 e2
  have := AR.len h
  simp [this.1, this.2]
def colT (n : Nat) (lab : Labs) : Labs := fun a => match lab a with
 | .tmp j => if n ≤ j then .tmp n else .tmp j
 | l => l
def colF (n : Nat) (lab : Labs) : Labs := fun a => match lab a with
 | .tmp j => if n ≤ j then .fro else .tmp j
 | l => l
theorem colT_tmp {n j : Nat} {lab : Labs} {a : Addr} (h : lab a = .tmp j) (hj : n ≤ j) : colT n lab a = .tmp n := by unfold colT; rw [h]; exact if_pos hj
theorem colF_tmp {n j : Nat} {lab : Labs} {a : Addr} (h : lab a = .tmp j) (hj : n ≤ j) : colF n lab a = .fro := by unfold colF; rw [h]; exact if_pos hj
theorem colT_keep {n : Nat} {lab : Labs} {a : Addr} {m : List Nat} (h : keepL m n (lab a) = true) : colT n lab a = lab a := by
 unfold colT
 split
 · rename_i j e
   rw [e] at h
   simp only [keepL, decide_eq_true_eq] at h
   rw [if_neg (by omega), e]
 · rfl
theorem colF_keep {n : Nat} {lab : Labs} {a : Addr} {m : List Nat} (h : keepL m n (lab a) = true) : colF n lab a = lab a := by
 unfold colF
 split
 · rename_i j e
   rw [e] at h
   simp only [keepL, decide_eq_true_eq] at h
   rw [if_neg (by omega), e]
 · rfl
theorem colT_old {n : Nat} {lab : Labs} {a : Addr} (h : oldL (colT n lab a) = true) : lab a = colT n lab a := by
 unfold colT at h ⊢
 split
 · rename_i j e
   rw [e] at h
   dsimp only at h
   split at h <;> cases h
 · rfl
theorem colF_old {n : Nat} {lab : Labs} {a : Addr} (h : oldL (colF n lab a) = true) : lab a = colF n lab a := by
 unfold colF at h ⊢
 split
 · rename_i j e
   rw [e] at h
   dsimp only at h
   split at h <;> cases h
 · rfl
theorem Pres.colT {m : List Nat} {n : Nat} {H : Hp} {lab : Labs} : Pres m n H lab H (colT n lab) := .relab (fun _ h => colT_keep h) fun _ h => colT_old h
theorem Pres.colF {m : List Nat} {n : Nat} {H : Hp} {lab : Labs} : Pres m n H lab H (colF n lab) := .relab (fun _ h => colF_keep h) fun _ h => colF_old h
theorem bw_colF {n : Nat} {lab : Labs} {a : Addr} {R : List Lab} (h : (∃ j, n ≤ j ∧ lab a = .tmp j) ∨ bw R (lab a)) : bw R (colF n lab a) := by
 rcases h with ⟨j, hj, e⟩ | h | h
 · exact .inl (colF_tmp e hj)
 · exact .inl (by unfold colF; rw [h])
 · by_cases q : ∃ j, n ≤ j ∧ lab a = .tmp j
   · obtain ⟨j, hj, e⟩ := q
     exact .inl (colF_tmp e hj)
   · refine .inr ?_
     unfold colF
     split
     · rename_i j e
       rw [if_neg (fun z => q ⟨j, z, e⟩), ← e]
       exact h
     · exact h
def eTup (gs : List D → ER (List D)) : List D → ER D := fun σ => (gs σ).bind fun ds σ1 => .ok (.tup ds) σ1
def eLst (gs : List D → ER (List D)) : List D → ER D := fun σ => (gs σ).bind fun ds σ1 => .ok (.lst ds) σ1
theorem ej_tup {x1} (h : AJ X W Γx Γ n m es gs ks) (ho : ks.all ownA = true := by rfl) (hl : ks.length ≤ 1000 := by decide) : EJ X W Γx Γ n m (.Tuple es x1 pos) (eTup gs) .own := by
 refine pe_imp (pe_tup h) fun σ H Q hh => ?_
 obtain ⟨σD, lab, gg, sr, po⟩ := hh
 refine ⟨σD, lab, gg, sr, po.last fun ds σD1 vs H1 lab1 sr1 pr1 rl1 po1 => ?_⟩
 obtain ⟨fp, r, nd, l⟩ := rl1.own ho
 refine ⟨by rw [rl1.len.1]; exact Nat.le_of_lt (small1000 hl), fun p hp => ?_⟩
 have P : Pres [] n H1 lab1 (upd H1 p (.tup vs)) (setL (colT n lab1) p (.tmp n)) := Pres.colT.trans (.alloc hp rfl) (SubK.refl _ _) (SubK.refl _ _)
 have ne : ∀ a ∈ fp, a ≠ p := fun a ha e => by
  obtain ⟨o, q, _⟩ := r.alloc a ha
  rw [e, hp] at q; cases q
 refine po1 _ _ _ (sr1.pres gg P) P ⟨fp, .tup (.of upd_same) (r.ext (TK.new hp) fun a ha => upd_ne (ne a ha)), nd, fun a ha => ?_⟩
 obtain ⟨j, hj, e⟩ := l a ha
 show (if a = p then _ else _) = _
 rw [if_neg (ne a ha)]
 exact colT_tmp e hj
theorem ej_lst (h : AJ X W Γx Γ n m es gs ks) (ho : ks.all ownA = true := by rfl) (hl : ks.length ≤ 1000 := by decide) : EJ X W Γx Γ n m (.List es pos) (eLst gs) .own := by
 refine pe_imp (pe_lst h) fun σ H Q hh => ?_
 obtain ⟨σD, lab, gg, sr, po⟩ := hh
 refine ⟨σD, lab, gg, sr, po.last fun ds σD1 vs H1 lab1 sr1 pr1 rl1 po1 => ?_⟩
 obtain ⟨fp, r, nd, l⟩ := rl1.own ho
 refine ⟨by rw [rl1.len.1]; exact Nat.le_of_lt (small1000 hl), fun p hp => ?_⟩
 have P : Pres [] n H1 lab1 (upd H1 p (.lst vs)) (setL (colT n lab1) p (.tmp n)) := Pres.colT.trans (.alloc hp rfl) (SubK.refl _ _) (SubK.refl _ _)
 have ne : ∀ a ∈ fp, a ≠ p := fun a ha e => by
  obtain ⟨o, q, _⟩ := r.alloc a ha
  rw [e, hp] at q; cases q
 refine po1 _ _ _ (sr1.pres gg P) P ⟨p :: fp, .lst upd_same (r.ext (TK.new hp) fun a ha => upd_ne (ne a ha)), List.nodup_cons.mpr ⟨fun z => ne p z rfl, nd⟩, fun a ha => ?_⟩
 show (if a = p then _ else _) = _
 rcases List.mem_cons.mp ha with q | q
 · exact if_pos q
 · obtain ⟨j, hj, e⟩ := l a q
   rw [if_neg (ne a q)]
   exact colT_tmp e hj
def eFlat (g : List D → ER D) : List D → ER D := fun σ => (g σ).bind fun d σ1 => if d.flat = true then .ok d σ1 else .stuck
theorem ej_flat (h : EJ X W Γx Γ n m e g k) : EJ X W Γx Γ n m e (eFlat g) .own := by
 refine pe_imp h fun σ H Q hh => ?_
 obtain ⟨σD, lab, gg, sr, po⟩ := hh
 refine ⟨σD, lab, gg, sr, po.last fun d σD1 v H1 lab1 sr1 pr1 rl1 po1 => ?_⟩
 split at po1
 · rename_i f
   exact po1 _ H1 lab1 sr1 (.refl _ _ _ _) (rl1.flat_own f)
 · exact po1.elim
def eFlatL (g : List D → ER D) : List D → ER D := fun σ => (g σ).bind fun d σ1 => match d with
 | .lst ds => if D.flats ds = true then .ok (.lst ds) σ1 else .stuck
 | _ => .stuck
theorem ej_bor {R : List Lab} (h : EJ X W Γx Γ n m e g .own) : EJ X W Γx Γ n m e g (.bor R) := by
 refine pe_imp h fun σ H Q hh => ?_
 obtain ⟨σD, lab, gg, sr, po⟩ := hh
 cases eg : g σD with
 | stuck => rw [eg] at po; exact po.elim
 | exc c p σD' =>
  refine ⟨σD, lab, gg, sr, ?_⟩
  rw [eg] at po ⊢
  exact po
 | ok d σD' =>
  refine ⟨σD, lab, gg, sr, ?_⟩
  rw [eg] at po ⊢
  intro v H1 lab1 sr1 pr1 rl1
  obtain ⟨fp, r, nd, l⟩ := rl1
  have P : Pres [] n H1 lab1 H1 (colF n lab1) := .colF
  exact po v H1 (colF n lab1) (sr1.pres gg P) (pr1.trans P (SubK.refl _ _) (SubK.nil _ _)) ⟨fp, r, fun a ha => .inl (colF_tmp (l a ha) (Nat.le_refl _))⟩
end
end Ow
namespace Ow
open PySem PySem.Spec PyProof.Rows L2
mutual
def D.py : D → PyData
 | .non => .none
 | .bl b => .bool b
 | .int i => .int i
 | .str x => .str x
 | .tup ds => .tuple (D.pys ds)
 | .lst ds => .list (D.pys ds)
 | .dK _ => .none
 | .dT _ => .none
 | .ins _ _ => .none
 | .fzl _ => .none
 | .exn _ _ => .none
 | .fzd _ _ => .none
def D.pys : List D → List PyData
 | [] => []
 | d :: ds => d.py :: D.pys ds
end
def D.dat : Nat → D → Bool
 | _, .non => true
 | _, .bl _ => true
 | _, .int _ => true
 | _, .str x => PyData.strOk x
 | n + 1, .tup ds => ds.all (D.dat n)
 | n + 1, .lst ds => ds.all (D.dat n)
 | _, _ => false
def D.eqv (x y : D) : Bool := PyData.eqv x.py y.py
theorem D.dat_lay : ∀ (n : Nat) (d : D), d.dat n = true → d.py.canLay0 = true ∧ d.py.depth ≤ n
 | n, .non, h => by simp [D.py, PyData.canLay0, PyData.depth]
 | n, .bl _, h => by simp [D.py, PyData.canLay0, PyData.depth]
 | n, .int _, h => by simp [D.py, PyData.canLay0, PyData.depth]
 | n, .str x, h => by
  have h : PyData.strOk x = true := by cases n <;> exact h
  simp [D.py, PyData.canLay0, PyData.depth, h]
 | n + 1, .tup ds, h => by
  have h : ds.all (D.dat n) = true := h
  have : ∀ es : List D, es.all (D.dat n) = true → PyData.canLayAll0 (D.pys es) = true ∧ PyData.depthAll (D.pys es) ≤ n := by
   intro es
   induction es with
   | nil => intro _; simp [D.pys, PyData.canLayAll0, PyData.depthAll]
   | cons e es ih =>
    intro he
    rw [List.all_cons, Bool.and_eq_true] at he
    have h1 := D.dat_lay n e he.1
    have h2 := ih he.2
    simp only [D.pys, PyData.canLayAll0, PyData.depthAll, Bool.and_eq_true]
    exact ⟨⟨h1.1, h2.1⟩, Nat.max_le.mpr ⟨h1.2, h2.2⟩⟩
  have := this ds h
  simp only [D.py, PyData.canLay0, PyData.depth]
  exact ⟨this.1, by omega⟩
 | n + 1, .lst ds, h => by
  have h : ds.all (D.dat n) = true := h
  have : ∀ es : List D, es.all (D.dat n) = true → PyData.canLayAll0 (D.pys es) = true ∧ PyData.depthAll (D.pys es) ≤ n := by
   intro es
   induction es with
   | nil => intro _; simp [D.pys, PyData.canLayAll0, PyData.depthAll]
   | cons e es ih =>
    intro he
    rw [List.all_cons, Bool.and_eq_true] at he
    have h1 := D.dat_lay n e he.1
    have h2 := ih he.2
    simp only [D.pys, PyData.canLayAll0, PyData.depthAll, Bool.and_eq_true]
    exact ⟨⟨h1.1, h2.1⟩, Nat.max_le.mpr ⟨h1.2, h2.2⟩⟩
  have := this ds h
  simp only [D.py, PyData.canLay0, PyData.depth]
  exact ⟨this.1, by omega⟩
 | 0, .tup ds, h => by cases h
 | 0, .lst ds, h => by cases h
 | n, .dK _, h => by cases n <;> cases h
 | n, .dT _, h => by cases n <;> cases h
 | n, .ins _ _, h => by cases n <;> cases h
 | n, .fzl _, h => by cases n <;> cases h
 | n, .exn _ _, h => by cases n <;> cases h
 | n, .fzd _ _, h => by cases n <;> cases h
section
variable {K : PySem.W.Frag} {cl : CE} {H : Hp}
mutual
theorem Rp.dp : ∀ {v : V} {d : D} {fp : List Addr} {n : Nat}, Rp K cl H v d fp → d.dat n = true → Dp K H v d.py
 | _, _, _, _, .non, _ => by rw [D.py]; exact .non
 | _, _, _, _, .bl b, _ => by rw [D.py]; exact .bl b
 | _, _, _, _, .int i, _ => by rw [D.py]; exact .int i
 | _, _, _, _, .str x, _ => by rw [D.py]; exact .str x
 | _, _, _, 0, .tup h r, e => by cases e
 | _, _, _, n + 1, .tup h r, e => by rw [D.py]; exact .tup h (RpL.dp r (n := n) e)
 | _, _, _, 0, .lst h r, e => by cases e
 | _, _, _, n + 1, .lst h r, e => by rw [D.py]; exact .lst (.of h) (RpL.dp r (n := n) e)
 | _, _, _, n, .lsf h r, e => by cases n <;> cases e
 | _, _, _, n, .dK h k r, e => by cases n <;> cases e
 | _, _, _, n, .dT h ok hk k hv r, e => by cases n <;> cases e
 | _, _, _, n, .ins c h k r, e => by cases n <;> cases e
 | _, _, _, n, .fzk h k r, e => by cases n <;> cases e
 | _, _, _, n, .fzt h ok hk k hv r hne, e => by cases n <;> cases e
theorem RpL.dp : ∀ {vs : List V} {ds : List D} {fp : List Addr} {n : Nat}, RpL K cl H vs ds fp → ds.all (D.dat n) = true → DpAll K H vs (D.pys ds)
 | _, _, _, _, .nil, _ => .nil
 | _, _, _, n, .cons h r, e => by
  rw [List.all_cons, Bool.and_eq_true] at e
  exact .cons (Rp.dp h e.1) (RpL.dp r e.2)
end
end
theorem D.dat_noE {d : D} {n : Nat} (h : d.dat n = true) : d.noE = true := by
 cases d <;> first | rfl | (cases n <;> cases h)
def dEq (x y : D) : Option D := if x.dat 64 = true ∧ y.dat 64 = true then some (.bl (x.eqv y)) else none
def dNe (x y : D) : Option D := if x.dat 64 = true ∧ y.dat 64 = true then some (.bl (!x.eqv y)) else none
theorem D.shaped {d : D} (h : d.dat 64 = true) : SeqAt.shaped d.py = true := by
 have := D.dat_lay 64 d h
 unfold SeqAt.shaped
 rw [this.1, Bool.true_and]
 exact decide_eq_true this.2
section
variable {X : Cx} {W : WX} {Γx Γ : Ctx} {n : Nat} {m m1 m2 : List Nat} {pos : Pos} {a b : Expr} {ga gb : List D → ER D} {k k1 : Kd}
theorem eq_imp {f : D → D → Option D} {r : R2} {ta tb : TE} (hf : ∀ x y z, f x y = some z → ∃ c, z = .bl c ∧ (x.noE = true ∧ y.noE = true) ∧ ∀ H v w fp fq (Q : VK), Rp X.K (clX X) H v x fp → Rp X.K (clX X) H w y fq → Q (.bl c) H → r v w H Q)
 (ha : ∀ σ H Q, rdE X W Γx Γ n m1 k ga σ H Q → ta σ H Q) (hb : ∀ σ H Q, rdE X W Γx Γ (n + 1) m2 k1 gb σ H Q → tb σ H Q) (ok : okK m2 (n + 1) k = true) (σ : St) (H : Hp) (Q : VK) (h : rdE X W Γx Γ n (m1 ++ m2) .own (eBin f ga gb) σ H Q) : tOp r ta tb σ H Q := by
 obtain ⟨σD, lab, g, sr, po⟩ := h
 refine ha _ _ _ ⟨σD, lab, g, sr, po.seq' fun x σD1 v H1 lab1 sr1 pr1 rl1 po1 => ?_⟩
 refine hb _ _ _ ⟨σD1, lab1, gok.up g, sr1, po1.seq (SubK.up _ _) (Nat.le_succ _) (SubK.nil _ _) (Nat.le_refl _) fun y σD2 w H2 lab2 sr2 pr2 rl2 po2 => ?_⟩
 have rl1 := VR.pres pr2 rl1 ok (by simp [keepL])
 obtain ⟨z, e, q⟩ := po2.done
 obtain ⟨c, rfl, hno, hr⟩ := hf x y z e
 obtain ⟨f1, r1⟩ := rl1.rp hno.1
 obtain ⟨f2, r2⟩ := rl2.rp hno.2
 exact hr _ _ _ _ _ _ r1 r2 (q _ _ _ sr2 (.refl _ _ _ _) (SV.bl _).vr)
theorem dEq_ok : ∀ x y z, dEq x y = some z → ∃ c, z = .bl c ∧ (x.noE = true ∧ y.noE = true) ∧ ∀ H v w fp fq (Q : VK), Rp X.K (clX X) H v x fp → Rp X.K (clX X) H w y fq → Q (.bl c) H → rEqD X.K v w H Q := fun x y z e => by
 unfold dEq at e
 split at e
 · rename_i h
   cases e
   exact ⟨_, rfl, ⟨D.dat_noE h.1, D.dat_noE h.2⟩, fun H v w fp fq Q r1 r2 q => ⟨x.py, y.py, r1.dp h.1, r2.dp h.2, D.shaped h.1, D.shaped h.2, q⟩⟩
 · cases e
theorem dNe_ok : ∀ x y z, dNe x y = some z → ∃ c, z = .bl c ∧ (x.noE = true ∧ y.noE = true) ∧ ∀ H v w fp fq (Q : VK), Rp X.K (clX X) H v x fp → Rp X.K (clX X) H w y fq → Q (.bl c) H → rNeD X.K v w H Q := fun x y z e => by
 unfold dNe at e
 split at e
 · rename_i h
   cases e
   exact ⟨_, rfl, ⟨D.dat_noE h.1, D.dat_noE h.2⟩, fun H v w fp fq Q r1 r2 q => ⟨x.py, y.py, r1.dp h.1, r2.dp h.2, D.shaped h.1, D.shaped h.2, q⟩⟩
 · cases e
theorem ej_eq (hu : X.A.units + 64 < cLine) (ha : EJ X W Γx Γ n m1 a ga k) (hb : EJ X W Γx Γ (n + 1) m2 b gb k1) (ok : okK m2 (n + 1) k = true := by decide) : EJ X W Γx Γ n (m1 ++ m2) (.Compare a [.Eq] [b] pos) (eBin dEq ga gb) .own :=
 pe_imp (pe_cmpR (op_eqD hu) ha hb (nomark _)) fun σ H Q h => eq_imp dEq_ok (fun _ _ _ q => q) (fun _ _ _ q => q) ok σ H Q h
theorem tj_eq (hu : X.A.units + 64 < cLine) (ha : EJ X W Γx Γ n m1 a ga k) (hb : EJ X W Γx Γ (n + 1) m2 b gb k1) (ok : okK m2 (n + 1) k = true := by decide) : TJ X W Γx Γ n (m1 ++ m2) (.Compare a [.Eq] [b] pos) (tOf (eBin dEq ga gb)) :=
 pt_imp (pt_cmpR (op_eqD hu) ha hb (nomark _)) fun σ H Q h => tof_imp (fun σ H Q q => eq_imp dEq_ok (fun _ _ _ q => q) (fun _ _ _ q => q) ok σ H Q q) σ H Q h
theorem tj_ne (hu : X.A.units + 64 < cLine) (ha : EJ X W Γx Γ n m1 a ga k) (hb : EJ X W Γx Γ (n + 1) m2 b gb k1) (ok : okK m2 (n + 1) k = true := by decide) : TJ X W Γx Γ n (m1 ++ m2) (.Compare a [.NotEq] [b] pos) (tOf (eBin dNe ga gb)) :=
 pt_imp (pt_cmpR (op_neD hu) ha hb (nomark _)) fun σ H Q h => tof_imp (fun σ H Q q => eq_imp dNe_ok (fun _ _ _ q => q) (fun _ _ _ q => q) ok σ H Q q) σ H Q h
end
def eCall1 (f : List D → Option D) (gs : List D → ER (List D)) : List D → ER D := fun σ => (gs σ).bind fun ds σ1 => ofO (f ds) σ1
def ScalCall (X : Cx) (f : List D → Option D) (r : List V → Hp → VK → Prop) : Prop := ∀ ds z, f ds = some z → ∃ zv, SV zv z ∧ ∀ (H : Hp) (vs : List V) (fp : List Addr) (Q : VK), RpL X.K (clX X) H vs ds fp → Q zv H → r vs H Q
section
variable {X : Cx} {W : WX} {Γx Γ : Ctx} {n : Nat} {m m1 m2 : List Nat} {pos p : Pos} {x : Str} {e : Expr} {es : List Expr} {gs : List D → ER (List D)} {ks : List AK} {f : List D → Option D} {r : List V → Hp → VK → Prop} {id T : String}
theorem callB_imp {ta : TA} (hf : ScalCall X f r) (hv : ks.all valA = true) (ha : ∀ σ H Q, rdA X W Γx Γ n m ks gs σ H Q → ta σ H Q) (σ : St) (H : Hp) (Q : VK) (h : rdE X W Γx Γ n m .own (eCall1 f gs) σ H Q) : tCB r ta σ H Q := by
 obtain ⟨σD, lab, g, sr, po⟩ := h
 refine ha _ _ _ ⟨σD, lab, g, sr, po.last fun ds σD1 vs H1 lab1 sr1 pr1 rl1 po1 => ?_⟩
 obtain ⟨z, e, q⟩ := po1.done
 obtain ⟨zv, sv, hr⟩ := hf ds z e
 obtain ⟨fp, rp, _⟩ := rl1.mix hv
 exact hr _ _ _ _ rp (q _ _ _ sr1 (.refl _ _ _ _) sv.vr)
theorem ej_callB (hf : ScalCall X f r) (hc : CallR X (.builtin id) r) (hg : Gl X x) (hm : X.mg x = none) (hv : bootBuiltins x = some (.builtin id)) (ha : AJ X W Γx Γ n m (e :: es) gs ks) (ho : ks.all valA = true := by rfl) (hn : x ≠ "__name__" := by decide) (hdb : (x == ("__debug__" : Str)) = false := by decide)
 (he : starEach (e :: es) X.env = (false, eval e X.env) :: starEach es X.env := by rfl) (hpl : (backTo pos (starEach es X.env)).any (·.1) = false := by rfl) : EJ X W Γx Γ n m (.Call (.Name x p) (e :: es) [] pos) (eCall1 f gs) .own :=
 pe_imp (pe_callB hc hg hm hv ha hn hdb he hpl) fun σ H Q h => callB_imp hf ho (fun _ _ _ q => q) σ H Q h
theorem ej_callTy (hf : ScalCall X f r) (hc : CallR X (.type T) r) (hg : Gl X x) (hm : X.mg x = none) (hv : bootBuiltins x = some (.type T)) (ha : AJ X W Γx Γ n m (e :: es) gs ks) (ho : ks.all valA = true := by rfl) (hn : x ≠ "__name__" := by decide) (hdb : (x == ("__debug__" : Str)) = false := by decide)
 (he : starEach (e :: es) X.env = (false, eval e X.env) :: starEach es X.env := by rfl) (hpl : (backTo pos (starEach es X.env)).any (·.1) = false := by rfl) : EJ X W Γx Γ n m (.Call (.Name x p) (e :: es) [] pos) (eCall1 f gs) .own :=
 pe_imp (pe_callTy hc hg hm hv ha hn hdb he hpl) fun σ H Q h => callB_imp hf ho (fun _ _ _ q => q) σ H Q h
end
def fLen : List D → Option D
 | [.tup ds] => some (.int ds.length)
 | [.lst ds] => some (.int ds.length)
 | [.fzl ds] => some (.int ds.length)
 | [.str z] => if z.length ≤ sizeLine then some (.int z.length) else none
 | _ => none
def fAbs : List D → Option D
 | [.int i] => some (.int (if i < 0 then -i else i))
 | _ => none
def fInt : List D → Option D
 | [.int i] => some (.int i)
 | [.bl b] => some (.int (if b then 1 else 0))
 | _ => none
def fMax2 : List D → Option D
 | [.int i, .int j] => some (.int (if j > i then j else i))
 | _ => none
def fMin2 : List D → Option D
 | [.int i, .int j] => some (.int (if j < i then j else i))
 | _ => none
section
variable {X : Cx}
theorem RpL.one_inv {K : PySem.W.Frag} {cl : CE} {H : Hp} {vs : List V} {d : D} {fp : List Addr} (h : RpL K cl H vs [d] fp) : ∃ v f, vs = [v] ∧ Rp K cl H v d f := by
 obtain ⟨v, ws, f1, f2, rfl, rfl, a, b⟩ := h.cons_inv
 obtain ⟨rfl, rfl⟩ := b.nil_inv
 exact ⟨v, f1, rfl, a⟩
theorem RpL.two_inv {K : PySem.W.Frag} {cl : CE} {H : Hp} {vs : List V} {d e : D} {fp : List Addr} (h : RpL K cl H vs [d, e] fp) : ∃ v w f g, vs = [v, w] ∧ Rp K cl H v d f ∧ Rp K cl H w e g := by
 obtain ⟨v, ws, f1, f2, rfl, rfl, a, b⟩ := h.cons_inv
 obtain ⟨w, g, rfl, c⟩ := b.one_inv
 exact ⟨v, w, f1, g, rfl, a, c⟩
theorem sc_len : ScalCall X fLen (fun xs H Q => ∃ x n, xs = [x] ∧ LenV X.K x H n ∧ Q (.int n) H) := fun ds z e => by
 unfold fLen at e
 split at e
 · cases e
   refine ⟨_, .int _, fun H vs fp Q r q => ?_⟩
   obtain ⟨v, f, rfl, r0⟩ := r.one_inv
   cases r0 with
   | tup h r => exact ⟨_, _, rfl, .inr ⟨_, h, rfl⟩, by rw [r.len]; exact q⟩
 · cases e
   refine ⟨_, .int _, fun H vs fp Q r q => ?_⟩
   obtain ⟨v, f, rfl, r0⟩ := r.one_inv
   cases r0 with
   | lst h r => exact ⟨_, _, rfl, .inl ⟨_, .of h, rfl⟩, by rw [r.len]; exact q⟩
 · cases e
   refine ⟨_, .int _, fun H vs fp Q r q => ?_⟩
   obtain ⟨v, f, rfl, r0⟩ := r.one_inv
   cases r0 with
   | lsf h r => exact ⟨_, _, rfl, .inl ⟨_, h.sql, rfl⟩, by rw [r.len]; exact q⟩
 · split at e
   · rename_i hz
     cases e
     refine ⟨_, .int _, fun H vs fp Q r q => ?_⟩
     obtain ⟨v, f, rfl, r0⟩ := r.one_inv
     cases r0
     exact ⟨_, _, rfl, ⟨hz, rfl⟩, q⟩
   · cases e
 · cases e
theorem sc_abs : ScalCall X fAbs (fun xs H Q => ∃ i, xs = [.int i] ∧ Q (.int (if i < 0 then -i else i)) H) := fun ds z e => by
 unfold fAbs at e
 split at e
 · cases e
   refine ⟨_, .int _, fun H vs fp Q r q => ?_⟩
   obtain ⟨v, f, rfl, r0⟩ := r.one_inv
   cases r0
   exact ⟨_, rfl, q⟩
 · cases e
theorem sc_int : ScalCall X fInt (fun xs H Q => (∃ i, xs = [.int i] ∧ Q (.int i) H) ∨ ∃ k, xs = [.bl k] ∧ Q (.int (if k then 1 else 0)) H) := fun ds z e => by
 unfold fInt at e
 split at e
 · cases e
   refine ⟨_, .int _, fun H vs fp Q r q => ?_⟩
   obtain ⟨v, f, rfl, r0⟩ := r.one_inv
   cases r0
   exact .inl ⟨_, rfl, q⟩
 · cases e
   refine ⟨_, .int _, fun H vs fp Q r q => ?_⟩
   obtain ⟨v, f, rfl, r0⟩ := r.one_inv
   cases r0
   exact .inr ⟨_, rfl, q⟩
 · cases e
theorem sc_max2 : ScalCall X fMax2 (fun xs H Q => ∃ i j, xs = [.int i, .int j] ∧ Q (.int (if j > i then j else i)) H) := fun ds z e => by
 unfold fMax2 at e
 split at e
 · cases e
   refine ⟨_, .int _, fun H vs fp Q r q => ?_⟩
   obtain ⟨v, w, f, g, rfl, r1, r2⟩ := r.two_inv
   cases r1
   cases r2
   exact ⟨_, _, rfl, q⟩
 · cases e
theorem sc_min2 : ScalCall X fMin2 (fun xs H Q => ∃ i j, xs = [.int i, .int j] ∧ Q (.int (if j < i then j else i)) H) := fun ds z e => by
 unfold fMin2 at e
 split at e
 · cases e
   refine ⟨_, .int _, fun H vs fp Q r q => ?_⟩
   obtain ⟨v, w, f, g, rfl, r1, r2⟩ := r.two_inv
   cases r1
   cases r2
   exact ⟨_, _, rfl, q⟩
 · cases e
end
section
variable {X : Cx} {W : WX} {Γx Γ : Ctx} {n : Nat} {m m1 m2 : List Nat} {pos p : Pos} {e : Expr} {es : List Expr} {gs : List D → ER (List D)} {ks : List AK}
theorem ej_len (hm : X.mg "len" = none) (ha : AJ X W Γx Γ n m [e] gs ks) (hg : Gl X "len" := by rfl) (ho : ks.all valA = true := by rfl) (he : starEach [e] X.env = [(false, eval e X.env)] := by rfl) : EJ X W Γx Γ n m (.Call (.Name "len" p) [e] [] pos) (eCall1 fLen gs) .own :=
 ej_callB sc_len call_len hg hm PySem.boot_len ha ho (by decide) (by decide) he (by rfl)
theorem ej_abs (hm : X.mg "abs" = none) (ha : AJ X W Γx Γ n m [e] gs ks) (hg : Gl X "abs" := by rfl) (ho : ks.all valA = true := by rfl) (he : starEach [e] X.env = [(false, eval e X.env)] := by rfl) : EJ X W Γx Γ n m (.Call (.Name "abs" p) [e] [] pos) (eCall1 fAbs gs) .own :=
 ej_callB sc_abs call_abs hg hm (by decide +kernel) ha ho (by decide) (by decide) he (by rfl)
theorem ej_intc (hm : X.mg "int" = none) (ha : AJ X W Γx Γ n m [e] gs ks) (hg : Gl X "int" := by rfl) (ho : ks.all valA = true := by rfl) (he : starEach [e] X.env = [(false, eval e X.env)] := by rfl) : EJ X W Γx Γ n m (.Call (.Name "int" p) [e] [] pos) (eCall1 fInt gs) .own :=
 ej_callTy sc_int call_int1 hg hm (by decide +kernel) ha ho (by decide) (by decide) he (by rfl)
theorem ej_max2 {e2 : Expr} (hc : X.calm = true) (hm : X.mg "max" = none) (ha : AJ X W Γx Γ n m [e, e2] gs ks) (hg : Gl X "max" := by rfl) (ho : ks.all valA = true := by rfl) (he : starEach [e, e2] X.env = (false, eval e X.env) :: starEach [e2] X.env := by rfl) (hpl : (backTo pos (starEach [e2] X.env)).any (·.1) = false := by rfl) : EJ X W Γx Γ n m (.Call (.Name "max" p) [e, e2] [] pos) (eCall1 fMax2 gs) .own :=
 ej_callB sc_max2 (call_max2 hc) hg hm (by decide +kernel) ha ho (by decide) (by decide) he hpl
theorem ej_min2 {e2 : Expr} (hc : X.calm = true) (hm : X.mg "min" = none) (ha : AJ X W Γx Γ n m [e, e2] gs ks) (hg : Gl X "min" := by rfl) (ho : ks.all valA = true := by rfl) (he : starEach [e, e2] X.env = (false, eval e X.env) :: starEach [e2] X.env := by rfl) (hpl : (backTo pos (starEach [e2] X.env)).any (·.1) = false := by rfl) : EJ X W Γx Γ n m (.Call (.Name "min" p) [e, e2] [] pos) (eCall1 fMin2 gs) .own :=
 ej_callB sc_min2 (call_min2 hc) hg hm (by decide +kernel) ha ho (by decide) (by decide) he hpl
end
inductive FR where
 | stuck | ret (d : D) (outs : List D) | exc (c : Str) (p : D) (outs : List D)
def outsR (K : PySem.W.Frag) (ce : CE) (io : List Nat) (vs : List V) (H : Hp) (lab : Labs) (outs : List D) : Prop := ∀ (q : Nat) (i : Nat), io[q]? = some i → ∃ v d, vs[i]? = some v ∧ outs[q]? = some d ∧ VR K ce H lab .own (.slt i) v d
def PayM (K : PySem.W.Frag) (ce : CE) (H : Hp) (lab : Labs) (c : Str) (p : D) (dd : Option Addr) : Prop := match pfOf c with
 | none => p = .non ∧ dd = none
 | some f => ∃ (d : Addr) (v : V) (j : Nat), dd = some d ∧ H d = some (.xd [(f, v)]) ∧ lab d = .tmp j ∧ VR K ce H lab .own (.tmp j) v p
inductive RKd where
 | own | brw | frz
structure Ret where
 k : RKd
 fz : List Nat
def Ret.T : Ret := ⟨.own, []⟩
def Ret.F : Ret := ⟨.brw, []⟩
def Ret.gv (b : Ret) : List Nat := match b.k with
 | .own => b.fz
 | _ => []
def Ret.fr (b : Ret) : List Nat := match b.k with
 | .own => []
 | _ => b.fz
def RKd.isOwn : RKd → Bool
 | .own => true
 | _ => false
def retK (b : Ret) : Kd := match b.k with
 | .own => .own
 | .brw => .bor [.prm]
 | .frz => .bor []
def parK (io xs : List Nat) (own : Ret) (i : Nat) : Kd := if io.contains i then .own else if xs.contains i then .exc [.prm] else if own.gv.contains i then .own else if own.fr.contains i then .bor [] else .bor [.prm]
def spD (K : PySem.W.Frag) (ce : CE) (np : Nat) (io xs : List Nat) (own : Ret) (F : List D → FR) : Sp := fun vs H Q E => ∃ (ds : List D) (lab : Labs), vs.length = np ∧ ds.length = np ∧
 (∀ (i : Nat) v d, vs[i]? = some v → ds[i]? = some d → VR K ce H lab (parK io xs own i) (.slt i) v d) ∧
 (∀ a, H a ≠ none → lab a = .out ∨ lab a = .prm ∨ lab a = .fro ∨ ∃ i ∈ io ++ own.gv, lab a = .slt i) ∧ TbOk K ce H lab ∧
 match F ds with
 | .stuck => False
 | .ret d outs => ∀ v H' lab' j, Pres (io ++ own.gv) 0 H lab H' lab' → outsR K ce io vs H' lab' outs → VR K ce H' lab' (retK own) (.tmp j) v d → Q v H'
 | .exc c p outs => ∀ H' lab' C dd, ce.cl c C → Pres (io ++ own.gv) 0 H lab H' lab' → outsR K ce io vs H' lab' outs → PayM K ce H' lab' c p dd → E (.ref C) dd H'
end Ow
namespace Ow
open PySem PySem.Spec PyProof.Rows L2
def leK : Kd → Kd → Bool
 | .own, .own => true
 | .bor R, .bor R' => R.all (R'.contains ·)
 | .spn R, .spn R' => R.all (R'.contains ·)
 | .exc R, .exc R' => R.all (R'.contains ·) && (!R'.contains .out || R.contains .out)
 | _, _ => false
def leKi (i : Nat) (k k' : Kd) : Bool := leK k k' || match k, k' with
 | .own, .bor R => R.contains (.slt i)
 | _, _ => false
def leC (Γ Γ' : Ctx) : Bool := (List.range Γ'.length).all fun i => match Γ'[i]? with
 | some (some k') => (match Γ[i]? with
  | some (some k) => leKi i k k'
  | _ => false)
 | _ => true
theorem bw.mono {R R' : List Lab} (h : R.all (R'.contains ·) = true) {l : Lab} (b : bw R l) : bw R' l := b.elim .inl fun z => .inr (by
 have := List.all_eq_true.mp h _ z
 simpa using this)
section
variable {K : PySem.W.Frag} {cl : CE} {H H' : Hp} {lab lab' : Labs} {k k' : Kd} {t : Lab} {v : V} {d : D}
theorem VR.le (h : VR K cl H lab k t v d) (e : leK k k' = true) : VR K cl H lab k' t v d := by
 cases k with
 | own => cases k' with
  | own => exact h
  | _ => cases e
 | bor R => cases k' with
  | bor R' =>
   obtain ⟨fp, r, l⟩ := h
   exact ⟨fp, r, fun a ha => (l a ha).mono e⟩
  | _ => cases e
 | spn R => cases k' with
  | spn R' =>
   obtain ⟨a, vs, ds, fp, e1, e2, ha, r, la, l⟩ := h
   exact ⟨a, vs, ds, fp, e1, e2, ha, r, la, fun b hb => ⟨(l b hb).1, (l b hb).2.mono e⟩⟩
  | _ => cases e
 | exc R => cases k' with
  | exc R' =>
   obtain ⟨fp, r, l, u⟩ := h
   have e : (R.all (R'.contains ·) && (!R'.contains .out || R.contains .out)) = true := e
   rw [Bool.and_eq_true] at e
   refine ⟨fp, r, fun a ha => (l a ha).mono e.1, fun z => ?_⟩
   have mem : Lab.out ∈ R := by
    have z : R'.contains Lab.out = true := by simpa using z
    have := e.2
    rw [z] at this
    simpa using this
   obtain ⟨u1, u2, u3⟩ := u mem
   refine ⟨?_, u2, u3⟩
   have := List.all_eq_true.mp e.1 t u1
   simpa using this
  | _ => cases e
end
theorem leC.at_ {Γ Γ' : Ctx} (h : leC Γ Γ' = true) {i : Nat} {k' : Kd} (e : Γ'[i]? = some (some k')) : ∃ k, Γ[i]? = some (some k) ∧ leKi i k k' = true := by
 have := List.all_eq_true.mp h i (List.mem_range.mpr (List.getElem?_eq_some_iff.mp e).1)
 rw [e] at this
 dsimp only at this
 split at this
 · rename_i k e2
   exact ⟨k, e2, this⟩
 · cases this
theorem VR.lei {K : PySem.W.Frag} {cl : CE} {H : Hp} {lab : Labs} {k k' : Kd} {i : Nat} {v : V} {d : D} (h : VR K cl H lab k (.slt i) v d) (e : leKi i k k' = true) : VR K cl H lab k' (.slt i) v d := by
 unfold leKi at e
 rcases Bool.or_eq_true_iff.mp e with e | e
 · exact h.le e
 · split at e
   · obtain ⟨fp, r, _, l⟩ := h
     exact ⟨fp, r, fun a ha => .inr (by rw [l a ha]; simpa using e)⟩
   · cases e
theorem SR.weak {X : Cx} {Γ Γ' : Ctx} {σ : St} {H : Hp} {lab : Labs} {σD : List D} (s : SR X Γ σ H lab σD) (h : leC Γ Γ' = true) : SR X Γ' σ H lab σD := ⟨s.l1, s.l2, fun i k' e => by
 obtain ⟨k, e1, e2⟩ := leC.at_ h e
 obtain ⟨v, d, a, b, c⟩ := s.at_ i k e1
 exact ⟨v, d, a, b, c.lei e2⟩, s.tb⟩
def slotAt (ks : List AK) (i : Nat) : Option Nat := match ks[i]? with
 | some (.slot r) => some r
 | _ => none
def slotPos (ks : List AK) : List Nat := (List.range ks.length).filter fun i => (slotAt ks i).isSome
def rsOf (ks : List AK) : List Nat := (slotPos ks).filterMap (slotAt ks)
def posA (ks : List AK) (r : Nat) : Option Nat := (List.range ks.length).find? fun i => slotAt ks i == some r
def uniqA (ks : List AK) : Bool := (List.range ks.length).all fun i => (List.range ks.length).all fun j => (slotAt ks i).isNone || (slotAt ks i != slotAt ks j) || (i == j)
theorem slotAt_lt {ks : List AK} {i r : Nat} (h : slotAt ks i = some r) : i < ks.length := by
 unfold slotAt at h
 split at h
 · rename_i e; exact (List.getElem?_eq_some_iff.mp e).1
 · cases h
theorem uniqA.at_ {ks : List AK} (u : uniqA ks = true) {i j r : Nat} (hi : slotAt ks i = some r) (hj : slotAt ks j = some r) : i = j := by
 have := List.all_eq_true.mp (List.all_eq_true.mp u i (List.mem_range.mpr (slotAt_lt hi))) j (List.mem_range.mpr (slotAt_lt hj))
 rw [hi, hj] at this
 simpa using this
theorem posA_of {ks : List AK} (u : uniqA ks = true) {i r : Nat} (h : slotAt ks i = some r) : posA ks r = some i := by
 unfold posA
 cases e : (List.range ks.length).find? fun i => slotAt ks i == some r with
 | none =>
  have := List.find?_eq_none.mp e i (List.mem_range.mpr (slotAt_lt h))
  simp [h] at this
 | some j =>
  have q := List.find?_some e
  have q : slotAt ks j = some r := by simpa using q
  rw [uniqA.at_ u h q]
theorem of_posA {ks : List AK} {i r : Nat} (h : posA ks r = some i) : slotAt ks i = some r := by
 have := List.find?_some h
 simpa using this
theorem mem_slotPos {ks : List AK} {i : Nat} : i ∈ slotPos ks ↔ ∃ r, slotAt ks i = some r := by
 unfold slotPos
 rw [List.mem_filter, List.mem_range, Option.isSome_iff_exists]
 exact ⟨fun h => h.2, fun ⟨r, h⟩ => ⟨slotAt_lt h, r, h⟩⟩
theorem mem_rsOf {ks : List AK} {r : Nat} : r ∈ rsOf ks ↔ ∃ i, slotAt ks i = some r := by
 unfold rsOf
 rw [List.mem_filterMap]
 exact ⟨fun ⟨i, _, h⟩ => ⟨i, h⟩, fun ⟨i, h⟩ => ⟨i, mem_slotPos.mpr ⟨r, h⟩, h⟩⟩
theorem AR.at_ {X : Cx} {σ : St} {σD : List D} {H : Hp} {lab : Labs} : ∀ {ks : List AK} {n : Nat} {vs : List V} {ds : List D} {i : Nat} {v : V} {d : D}, AR X σ σD H lab n ks vs ds → vs[i]? = some v → ds[i]? = some d →
 (∃ k, ks[i]? = some (.val k) ∧ VR X.K (clX X) H lab k (.tmp (n + i)) v d) ∨ ∃ r, ks[i]? = some (.slot r) ∧ σ[r]? = some (some v) ∧ d = σD.getD r .non
 | [], n, _, _, i, _, _, ⟨e1, e2⟩, h1, _ => by subst e1; simp at h1
 | .val k :: ks, n, _, _, 0, _, _, ⟨v, vs', d, ds', e1, e2, r, h⟩, h1, h2 => by
  subst e1 e2
  simp at h1 h2
  subst h1 h2
  exact .inl ⟨k, rfl, r⟩
 | .slot s :: ks, n, _, _, 0, _, _, ⟨v, vs', ds', e1, e2, r, h⟩, h1, h2 => by
  subst e1 e2
  simp at h1 h2
  subst h1
  exact .inr ⟨s, rfl, r, by rw [← h2]; simp⟩
 | .val k :: ks, n, _, _, i + 1, _, _, ⟨v, vs', d, ds', e1, e2, r, h⟩, h1, h2 => by
  subst e1 e2
  rcases AR.at_ (i := i) h (by simpa using h1) (by simpa using h2) with ⟨k', a, b⟩ | q
  · exact .inl ⟨k', by simpa using a, by rw [show n + (i + 1) = n + 1 + i by omega]; exact b⟩
  · exact .inr (by simpa using q)
 | .slot s :: ks, n, _, _, i + 1, _, _, ⟨v, vs', ds', e1, e2, r, h⟩, h1, h2 => by
  subst e1 e2
  rcases AR.at_ (i := i) h (by simpa using h1) (by simpa using h2) with ⟨k', a, b⟩ | q
  · exact .inl ⟨k', by simpa using a, by rw [show n + (i + 1) = n + 1 + i by omega]; exact b⟩
  · exact .inr (by simpa using q)
def posL (n : Nat) (gv : List Nat) (ks : List AK) : Lab → Option Nat
 | .slt r => posA ks r
 | .tmp j => if (decide (n ≤ j) && gv.contains (j - n)) = true then some (j - n) else none
 | _ => none
def visL (n : Nat) (ks : List AK) (l : Lab) : Bool := match l with
 | .fro => true
 | .tmp j => decide (n ≤ j) || (unionR ks).contains l
 | l => (unionR ks).contains l
def frzL (n : Nat) (fz : List Nat) (l : Lab) : Bool := match l with
 | .fro => true
 | .tmp j => decide (n ≤ j) && fz.contains (j - n)
 | _ => false
def labIn (n : Nat) (ks : List AK) (own : Ret) (lab : Labs) : Labs := fun a => match posL n own.gv ks (lab a) with
 | some i => .slt i
 | none => if frzL n own.fr (lab a) = true then .fro else if visL n ks (lab a) = true then .prm else .out
def labOut (own : Ret) (n : Nat) (ks : List AK) (H : Hp) (lab lab' : Labs) : Labs := fun a => if (H a).isSome = true ∧ posL n own.gv ks (lab a) = none then (if own.k.isOwn = true then lab a else colF n lab a) else match lab' a with
 | .slt i => (match slotAt ks i with
  | some r => .slt r
  | none => .fro)
 | .tmp _ => .tmp n
 | _ => .fro
def callK (own : Ret) (ks : List AK) : Kd := match own.k with
 | .own => .own
 | .brw => .bor (unionR ks)
 | .frz => .bor []
def fzOk (ks : List AK) (own : Ret) : Bool := (own.fr.all fun i => match ks[i]? with
 | some (.val .own) => true
 | some (.val (.bor [])) => true
 | _ => false) && own.gv.all fun i => match ks[i]? with
 | some (.val .own) => true
 | _ => false
def freeR (n : Nat) (gv : List Nat) (ks : List AK) (R : List Lab) : Bool := R.all fun l => (posL n gv ks l).isNone
def putOuts : List Nat → List D → List D → List D
 | r :: rs, o :: os, σ => putOuts rs os (σ.set r o)
 | _, _, σ => σ
theorem putOuts_len : ∀ (rs : List Nat) (os σ : List D), (putOuts rs os σ).length = σ.length
 | [], _, _ => rfl
 | _ :: _, [], _ => rfl
 | r :: rs, o :: os, σ => by rw [putOuts, putOuts_len, List.length_set]
theorem putOuts_ne : ∀ (rs : List Nat) (os σ : List D) {i : Nat}, i ∉ rs → (putOuts rs os σ)[i]? = σ[i]?
 | [], _, _, _, _ => rfl
 | _ :: _, [], _, _, _ => rfl
 | r :: rs, o :: os, σ, i, h => by
  rw [putOuts, putOuts_ne rs os _ fun z => h (List.mem_cons_of_mem _ z), List.getElem?_set_ne]
  rintro rfl
  exact h List.mem_cons_self
theorem putOuts_at : ∀ (rs : List Nat) (os σ : List D) {q r : Nat} {d : D}, rs.Nodup → rs[q]? = some r → os[q]? = some d → r < σ.length → (putOuts rs os σ)[r]? = some d
 | [], _, _, _, _, _, _, h, _, _ => by simp at h
 | _ :: _, [], _, _, _, _, _, _, h, _ => by simp at h
 | r :: rs, o :: os, σ, 0, _, _, nd, h1, h2, h3 => by
  simp at h1 h2
  subst h1 h2
  rw [putOuts, putOuts_ne rs os _ (List.nodup_cons.mp nd).1, List.getElem?_set_self h3]
 | r :: rs, o :: os, σ, q + 1, r', d, nd, h1, h2, h3 => by
  rw [putOuts]
  exact putOuts_at rs os _ (q := q) (List.nodup_cons.mp nd).2 (by simpa using h1) (by simpa using h2) (by rw [List.length_set]; exact h3)
def eCall (F : List D → FR) (rs : List Nat) (gs : List D → ER (List D)) : List D → ER D := fun σ => (gs σ).bind fun ds σ1 => match F ds with
 | .stuck => .stuck
 | .ret d outs => .ok d (putOuts rs outs σ1)
 | .exc c p outs => .exc c p (putOuts rs outs σ1)
def isOwnAt (Γ : Ctx) (r : Nat) : Bool := match Γ[r]? with
 | some (some .own) => true
 | _ => false
theorem isOwnAt.at_ {Γ : Ctx} {r : Nat} (h : isOwnAt Γ r = true) : Γ[r]? = some (some .own) := by
 unfold isOwnAt at h
 split at h
 · assumption
 · cases h
def restOk (n : Nat) (gv : List Nat) (Γ : Ctx) (ks : List AK) (rs : List Nat) : Bool := (List.range Γ.length).all fun i => match Γ[i]? with
 | some (some .own) => true
 | some (some (.bor R)) => !rs.contains i && freeR n gv ks R
 | some (some (.spn R)) => !rs.contains i && freeR n gv ks R
 | some (some (.exc R)) => !rs.contains i && freeR n gv ks R
 | _ => true
def isEx (ks : List AK) (i : Nat) : Bool := match ks[i]? with
 | some (.val (.exc _)) => true
 | _ => false
def excPos (ks : List AK) : List Nat := (List.range ks.length).filter (isEx ks)
theorem excPos_has {ks : List AK} {i : Nat} : (excPos ks).contains i = isEx ks i := by
 cases e : isEx ks i with
 | true =>
  have : i ∈ excPos ks := by
   unfold excPos
   rw [List.mem_filter, List.mem_range]
   refine ⟨?_, e⟩
   unfold isEx at e
   split at e
   · rename_i h; exact (List.getElem?_eq_some_iff.mp h).1
   · cases e
  simpa using this
 | false =>
  cases z : (excPos ks).contains i with
  | false => rfl
  | true =>
   have : i ∈ excPos ks := by simpa using z
   unfold excPos at this
   rw [List.mem_filter, e] at this
   cases this.2
structure CallOk (Γ Γx : Ctx) (n np : Nat) (io xs : List Nat) (own : Ret) (ks : List AK) (rs : List Nat) : Prop where
 x : excPos ks = xs
 u : uniqA ks = true
 l : ks.length = np
 i : slotPos ks = io
 r : rsOf ks = rs
 nd : rs.Nodup
 o : rs.all (isOwnAt Γ) = true
 rest : restOk n own.gv Γ ks rs = true
 fr : freeR n own.gv ks (unionR ks) = true
 lx : leC Γ Γx = true
 z : fzOk ks own = true
section
variable {X : Cx} {W : WX} {Γx Γ : Ctx} {n : Nat} {m : List Nat} {ks : List AK} {rs io xs : List Nat} {σ : St} {H H' : Hp} {lab lab' : Labs} {σD : List D} {np : Nat} {own : Ret}
theorem posL_slot (u : uniqA ks = true) {i r : Nat} (h : slotAt ks i = some r) : posL n own.gv ks (.slt r) = some i := posA_of u h
theorem of_posL {l : Lab} {i : Nat} (h : posL n own.gv ks l = some i) : (∃ r, l = .slt r ∧ slotAt ks i = some r) ∨ ∃ j, l = .tmp j ∧ n ≤ j ∧ i ∈ own.gv := by
 cases l with
 | slt r => exact .inl ⟨r, rfl, of_posA h⟩
 | tmp j =>
  have h : (if (decide (n ≤ j) && own.gv.contains (j - n)) = true then some (j - n) else none) = some i := h
  split at h
  · rename_i q
    have h := Option.some.inj h
    subst h
    simp only [Bool.and_eq_true, decide_eq_true_eq] at q
    exact .inr ⟨j, rfl, q.1, by simpa using q.2⟩
  · cases h
 | _ => cases h
theorem keep_posL (c : CallOk Γ Γx n np io xs own ks rs) {l : Lab} (h : keepL rs n l = true) : posL n own.gv ks l = none := by
 cases e : posL n own.gv ks l with
 | none => rfl
 | some i =>
  rcases of_posL e with ⟨r, rfl, hr⟩ | ⟨j, rfl, hj, _⟩
  · have : r ∈ rs := by rw [← c.r]; exact mem_rsOf.mpr ⟨i, hr⟩
    simp [keepL, this] at h
  · simp only [keepL, decide_eq_true_eq] at h
    omega
theorem free_bw {R : List Lab} (h : freeR n own.gv ks R = true) {l : Lab} (b : bw R l) : posL n own.gv ks l = none := by
 rcases b with rfl | b
 · rfl
 · have := List.all_eq_true.mp h l b
   simpa using this
theorem call_args (c : CallOk Γ Γx n np io xs own ks rs) (s : SR X Γ σ H lab σD) {vs : List V} {ds : List D} (r : AR X σ σD H lab n ks vs ds) : ∀ (i : Nat) v d, vs[i]? = some v → ds[i]? = some d → VR X.K (clX X) H (labIn n ks own lab) (parK io xs own i) (.slt i) v d := by
 intro i v d h1 h2
 have prm : ∀ {a : Addr}, posL n own.gv ks (lab a) = none → visL n ks (lab a) = true → labIn n ks own lab a = .fro ∨ labIn n ks own lab a ∈ [Lab.prm] := fun {a} e1 e2 => by
  unfold labIn
  rw [e1]
  dsimp only
  split
  · exact .inl rfl
  · first | exact .inr List.mem_cons_self | (rw [if_pos e2]; exact .inr List.mem_cons_self)
 have fro : ∀ {a : Addr}, posL n own.gv ks (lab a) = none → frzL n own.fr (lab a) = true → labIn n ks own lab a = .fro := fun {a} e1 e2 => by
  unfold labIn
  rw [e1]
  dsimp only
  rw [if_pos e2]
 rcases r.at_ h1 h2 with ⟨k, hk, hr⟩ | ⟨q, hk, hσ, rfl⟩
 · have hs : slotAt ks i = none := by unfold slotAt; rw [hk]
   have hio : io.contains i = false := by
    rw [← c.i]
    cases z : (slotPos ks).contains i with
    | false => rfl
    | true =>
     have : i ∈ slotPos ks := by simpa using z
     obtain ⟨r, e⟩ := mem_slotPos.mp this
     rw [hs] at e; cases e
   have hx : xs.contains i = isEx ks i := by rw [← c.x]; exact excPos_has
   unfold parK
   rw [hio, hx]
   unfold isEx
   rw [hk]
   have hu : ∀ l ∈ labsA (.val k), l ∈ unionR ks := fun l hl => List.mem_flatMap.mpr ⟨_, List.mem_of_getElem? hk, hl⟩
   have bwv : ∀ {a : Addr} {R : List Lab}, (∀ l ∈ R, l ∈ unionR ks) → bw R (lab a) → labIn n ks own lab a = .fro ∨ labIn n ks own lab a ∈ [Lab.prm] := fun {a R} hR b => by
    refine prm (free_bw c.fr (b.elim .inl fun z => .inr (hR _ z))) ?_
    rcases b with e | b
    · rw [e]; rfl
    · have := hR _ b
      cases e : lab a with
      | fro => rfl
      | tmp j => rw [e] at this; simp [visL, this]
      | _ => rw [e] at this; simp [visL, this]
   have hzz := c.z
   unfold fzOk at hzz
   rw [Bool.and_eq_true] at hzz
   have eni : n + i - n = i := by omega
   cases hg : own.gv.contains i with
   | true =>
    have hz := List.all_eq_true.mp hzz.2 i (by simpa using hg)
    rw [hk] at hz
    cases k with
    | own =>
     obtain ⟨fp, r, nd, l⟩ := hr
     refine ⟨fp, r, nd, fun a ha => ?_⟩
     have e2 : posL n own.gv ks (lab a) = some i := by
      rw [l a ha]
      show (if (decide (n ≤ n + i) && own.gv.contains (n + i - n)) = true then some (n + i - n) else none) = some i
      rw [eni, hg, if_pos (by simp)]
     unfold labIn
     rw [e2]
    | _ => cases hz
   | false =>
    have pn : posL n own.gv ks (.tmp (n + i)) = none := by
     show (if (decide (n ≤ n + i) && own.gv.contains (n + i - n)) = true then some (n + i - n) else none) = none
     rw [eni, hg, if_neg (by simp)]
    have tmpv : ∀ {a : Addr}, lab a = .tmp (n + i) → labIn n ks own lab a = .fro ∨ labIn n ks own lab a ∈ [Lab.prm] := fun {a} e => prm (by rw [e]; exact pn) (by rw [e]; simp [visL])
    cases hf : own.fr.contains i with
    | true =>
     have hz := List.all_eq_true.mp hzz.1 i (by simpa using hf)
     rw [hk] at hz
     cases k with
     | own =>
      obtain ⟨fp, r, nd, l⟩ := hr
      refine ⟨fp, r, fun a ha => .inl (fro (by rw [l a ha]; exact pn) ?_)⟩
      rw [l a ha]
      have e : n + i - n = i := by omega
      simp only [frzL, e, hf, Bool.and_true, decide_eq_true_eq]
      omega
     | bor R =>
      cases R with
      | nil =>
       obtain ⟨fp, r, l⟩ := hr
       refine ⟨fp, r, fun a ha => .inl ?_⟩
       have e : lab a = .fro := (l a ha).elim id fun z => by cases z
       exact fro (by rw [e]; rfl) (by rw [e]; rfl)
      | cons x R => cases hz
     | spn R => cases hz
     | exc R => cases hz
    | false =>
     cases k with
     | own =>
      obtain ⟨fp, r, nd, l⟩ := hr
      exact ⟨fp, r, fun a ha => tmpv (l a ha)⟩
     | bor R =>
      obtain ⟨fp, r, l⟩ := hr
      exact ⟨fp, r, fun a ha => bwv hu (l a ha)⟩
     | spn R =>
      obtain ⟨p, ws, es, fp, rfl, rfl, hp, r, lp, l⟩ := hr
      refine ⟨p :: fp, .lst hp r, fun a ha => ?_⟩
      rcases List.mem_cons.mp ha with e | e
      · rw [e]; exact tmpv lp
      · exact bwv hu (l a e).2
     | exc R =>
      obtain ⟨fp, r, l, _⟩ := hr
      exact ⟨fp, r, fun a ha => bwv hu (l a ha), fun z => by simp at z⟩
 · have hs : slotAt ks i = some q := by unfold slotAt; rw [hk]
   have hio : io.contains i = true := by
    rw [← c.i]
    simpa using mem_slotPos.mpr ⟨q, hs⟩
   unfold parK
   rw [hio]
   have hq : q ∈ rs := by rw [← c.r]; exact mem_rsOf.mpr ⟨i, hs⟩
   have ho := isOwnAt.at_ (List.all_eq_true.mp c.o q hq)
   obtain ⟨w, hw, fp, r, nd, l⟩ := s.get ho
   rw [hσ] at hw
   cases hw
   refine ⟨fp, r, nd, fun a ha => ?_⟩
   unfold labIn
   rw [l a ha, posL_slot c.u hs]
theorem call_labs (c : CallOk Γ Γx n np io xs own ks rs) : ∀ a, H a ≠ none → labIn n ks own lab a = .out ∨ labIn n ks own lab a = .prm ∨ labIn n ks own lab a = .fro ∨ ∃ i ∈ io ++ own.gv, labIn n ks own lab a = .slt i := by
 intro a _
 unfold labIn
 cases e : posL n own.gv ks (lab a) with
 | some i =>
  rcases of_posL e with ⟨r, e1, e2⟩ | ⟨j, _, _, e3⟩
  · exact .inr (.inr (.inr ⟨i, List.mem_append_left _ (by rw [← c.i]; exact mem_slotPos.mpr ⟨r, e2⟩), rfl⟩))
  · exact .inr (.inr (.inr ⟨i, List.mem_append_right _ e3, rfl⟩))
 | none =>
  dsimp only
  split
  · exact .inr (.inr (.inl rfl))
  · split
    · exact .inr (.inl rfl)
    · exact .inl rfl
theorem posL_stays {l : Lab} (h : staysL l = true) : posL n own.gv ks l = none := by cases l <;> first | rfl | cases h
theorem labIn_stays {a : Addr} (h : staysL (lab a) = true) : staysL (labIn n ks own lab a) = true := by
 unfold labIn
 rw [posL_stays h]
 dsimp only
 split
 · rfl
 · split <;> rfl
theorem call_tb (c : CallOk Γ Γx n np io xs own ks rs) (s : SR X Γ σ H lab σD) : TbOk X.K (clX X) H (labIn n ks own lab) := fun P hP => by
 obtain ⟨ps, h1, h2, h3⟩ := s.tb P hP
 refine ⟨ps, h1, h2, fun pos cv h => ?_⟩
 obtain ⟨c, e1, e2, e3⟩ := h3 pos cv h
 exact ⟨c, e1, e2, labIn_stays e3⟩
theorem call_stay (p : Pres (io ++ own.gv) 0 H (labIn n ks own lab) H' lab') {a : Addr} (ha : H a ≠ none) (e : posL n own.gv ks (lab a) = none) : (nTb (H a) → H' a = H a) ∧ lab' a = labIn n ks own lab a ∧ staysL (lab' a) = true := by
 have h1 : labIn n ks own lab a = .prm ∨ labIn n ks own lab a = .out ∨ labIn n ks own lab a = .fro := by
  unfold labIn
  rw [e]
  dsimp only
  split
  · exact .inr (.inr rfl)
  · split
    · exact .inl rfl
    · exact .inr (.inl rfl)
 have h2 := p.keep a ha (by rcases h1 with h1 | h1 | h1 <;> rw [h1] <;> rfl)
 exact ⟨h2.1, h2.2, by rw [h2.2]; rcases h1 with h1 | h1 | h1 <;> rw [h1] <;> rfl⟩
theorem labOut_stay {a : Addr} (ha : H a ≠ none) (e : posL n own.gv ks (lab a) = none) : labOut own n ks H lab lab' a = if own.k.isOwn = true then lab a else colF n lab a := by
 unfold labOut
 rw [if_pos ⟨by cases q : H a with | none => exact absurd q ha | some _ => rfl, e⟩]
theorem labOut_new {a : Addr} (h : H a = none ∨ posL n own.gv ks (lab a) ≠ none) : labOut own n ks H lab lab' a = match lab' a with
 | .slt i => (match slotAt ks i with
  | some r => .slt r
  | none => .fro)
 | .tmp _ => .tmp n
 | _ => .fro := by
 unfold labOut
 rw [if_neg]
 rintro ⟨h1, h2⟩
 rcases h with h | h
 · rw [h] at h1; cases h1
 · exact h h2
theorem call_new (p : Pres (io ++ own.gv) 0 H (labIn n ks own lab) H' lab') {a : Addr} (h : staysL (lab' a) = false) : H a = none ∨ posL n own.gv ks (lab a) ≠ none := by
 by_cases ha : H a = none
 · exact .inl ha
 · by_cases e : posL n own.gv ks (lab a) = none
   · rw [(call_stay p ha e).2.2] at h; cases h
   · exact .inr e
theorem call_pres (c : CallOk Γ Γx n np io xs own ks rs) (p : Pres (io ++ own.gv) 0 H (labIn n ks own lab) H' lab') : Pres rs n H lab H' (labOut own n ks H lab lab') where
 keep := fun a ha hk => by
  have e := keep_posL c hk
  refine ⟨(call_stay p ha e).1, ?_⟩
  rw [labOut_stay ha e]
  split
  · rfl
  · exact colF_keep hk
 tab := fun P q ps ⟨h1, h2, h3⟩ => by
  obtain ⟨ps', ⟨g1, g2, g3⟩, nc⟩ := p.tab P q ps ⟨h1, h2, fun pos cv h => by
   obtain ⟨c, e1, e2, e3⟩ := h3 pos cv h
   exact ⟨c, e1, e2, labIn_stays e3⟩⟩
  refine ⟨ps', ⟨g1, g2, fun pos cv h => ?_⟩, nc⟩
  obtain ⟨c', e1, e2, e3⟩ := g3 pos cv h
  refine ⟨c', e1, e2, ?_⟩
  rcases nc pos c' (e1 ▸ h) with z | z
  · obtain ⟨c2, f1, f2, f3⟩ := h3 pos _ z
    cases f1
    rw [labOut_stay (by rw [f2]; simp) (posL_stays f3)]
    split
    · exact f3
    · rw [colF_keep (m := rs) (keep_stays f3)]
      exact f3
  · rw [labOut_new (.inl z)]
    revert e3
    cases lab' c' <;> intro e3 <;> first | rfl | cases e3
 tk := p.tk
 there := p.there
 old := fun a ha ho => by
  by_cases q : H a = none ∨ posL n own.gv ks (lab a) ≠ none
  · rw [labOut_new q] at ho
    split at ho
    · split at ho <;> cases ho
    · cases ho
    · cases ho
  · have h1 : H a ≠ none := fun z => q (.inl z)
    have h2 : posL n own.gv ks (lab a) = none := Classical.byContradiction fun z => q (.inr z)
    refine ⟨h1, ?_⟩
    rw [labOut_stay h1 h2] at ho ⊢
    split
    · rfl
    · rename_i z
      rw [if_neg z] at ho
      exact colF_old ho
theorem call_own (p : Pres (io ++ own.gv) 0 H (labIn n ks own lab) H' lab') {v : V} {d : D} {j : Nat} (h : VR X.K (clX X) H' lab' .own (.tmp j) v d) : VR X.K (clX X) H' (labOut own n ks H lab lab') .own (.tmp n) v d := by
 obtain ⟨fp, r, nd, l⟩ := h
 refine ⟨fp, r, nd, fun a ha => ?_⟩
 rw [labOut_new (call_new p (by rw [l a ha]; rfl)), l a ha]
theorem call_bor (hw : own.k.isOwn = false) (p : Pres (io ++ own.gv) 0 H (labIn n ks own lab) H' lab') {v : V} {d : D} {t t' : Lab} (h : VR X.K (clX X) H' lab' (.bor [.prm]) t v d) : VR X.K (clX X) H' (labOut own n ks H lab lab') (.bor (unionR ks)) t' v d := by
 obtain ⟨fp, r, l⟩ := h
 refine ⟨fp, r, fun a ha => ?_⟩
 have hst : ∀ (h1 : H a ≠ none) (h3 : posL n own.gv ks (lab a) = none), labOut own n ks H lab lab' a = colF n lab a := fun h1 h3 => by
  rw [labOut_stay h1 h3, hw]; rfl
 rcases l a ha with e | e
 · by_cases q : H a = none ∨ posL n own.gv ks (lab a) ≠ none
   · rw [labOut_new q, e]
     exact .inl rfl
   · have h1 : H a ≠ none := fun z => q (.inl z)
     have h3 : posL n own.gv ks (lab a) = none := Classical.byContradiction fun z => q (.inr z)
     rw [hst h1 h3]
     refine bw_colF ?_
     have h2 := (call_stay p h1 h3).2.1
     rw [e] at h2
     cases z : frzL n own.fr (lab a) with
     | true =>
      cases z2 : lab a with
      | fro => exact .inr (.inl rfl)
      | tmp j =>
       rw [z2] at z
       simp only [frzL, Bool.and_eq_true, decide_eq_true_eq] at z
       exact .inl ⟨j, z.1, rfl⟩
      | _ => rw [z2] at z; cases z
     | false =>
      unfold labIn at h2
      rw [h3] at h2
      dsimp only at h2
      rw [if_neg (by rw [z]; exact Bool.false_ne_true)] at h2
      split at h2 <;> cases h2
 · have e : lab' a = .prm := List.mem_singleton.mp e
   obtain ⟨h1, h2⟩ := p.old a (by obtain ⟨o, q, _⟩ := r.alloc a ha; rw [q]; simp) (by rw [e]; rfl)
   rw [e] at h2
   have h3 : posL n own.gv ks (lab a) = none := by
    cases z : posL n own.gv ks (lab a) with
    | none => rfl
    | some i => unfold labIn at h2; rw [z] at h2; cases h2
   have h4 : visL n ks (lab a) = true := by
    unfold labIn at h2
    rw [h3] at h2
    dsimp only at h2
    split at h2
    · cases h2
    · split at h2
      · assumption
      · cases h2
   rw [hst h1 h3]
   refine bw_colF ?_
   cases z : lab a with
   | fro => exact .inr (.inl rfl)
   | tmp j =>
    rw [z] at h4
    simp [visL] at h4
    rcases h4 with h4 | h4
    · exact .inl ⟨j, h4, rfl⟩
    · exact .inr (.inr h4)
   | _ =>
    rw [z] at h4
    simp [visL] at h4
    exact .inr (.inr h4)
theorem call_frz (hw : own.k.isOwn = false) (p : Pres (io ++ own.gv) 0 H (labIn n ks own lab) H' lab') {v : V} {d : D} {t t' : Lab} (h : VR X.K (clX X) H' lab' (.bor []) t v d) : VR X.K (clX X) H' (labOut own n ks H lab lab') (.bor []) t' v d := by
 obtain ⟨fp, r, l⟩ := h
 refine ⟨fp, r, fun a ha => ?_⟩
 have e : lab' a = .fro := (l a ha).elim id fun z => by cases z
 by_cases q : H a = none ∨ posL n own.gv ks (lab a) ≠ none
 · rw [labOut_new q, e]
   exact .inl rfl
 · have h1 : H a ≠ none := fun z => q (.inl z)
   have h3 : posL n own.gv ks (lab a) = none := Classical.byContradiction fun z => q (.inr z)
   rw [labOut_stay h1 h3, hw]
   show bw _ (colF n lab a)
   refine bw_colF ?_
   have h2 := (call_stay p h1 h3).2.1
   rw [e] at h2
   cases z : frzL n own.fr (lab a) with
   | true =>
    cases z2 : lab a with
    | fro => exact .inr (.inl rfl)
    | tmp j =>
     rw [z2] at z
     simp only [frzL, Bool.and_eq_true, decide_eq_true_eq] at z
     exact .inl ⟨j, z.1, rfl⟩
    | _ => rw [z2] at z; cases z
   | false =>
    unfold labIn at h2
    rw [h3] at h2
    dsimp only at h2
    rw [if_neg (by rw [z]; exact Bool.false_ne_true)] at h2
    split at h2 <;> cases h2
theorem call_slots (c : CallOk Γ Γx n np io xs own ks rs) (g : gok Γ n = true) (s : SR X Γ σ H lab σD) {vs : List V} {ds : List D} (r : AR X σ σD H lab n ks vs ds) (p : Pres (io ++ own.gv) 0 H (labIn n ks own lab) H' lab') {outs : List D} (o : outsR X.K (clX X) io vs H' lab' outs) :
 SR X Γ σ H' (labOut own n ks H lab lab') (putOuts rs outs σD) := by
 refine ⟨s.l1, by rw [putOuts_len]; exact s.l2, fun i k e => ?_, s.tb.pres (call_pres c p)⟩
 obtain ⟨v, d, a, b, vr⟩ := s.at_ i k e
 by_cases hi : i ∈ rs
 · have hk : k = .own := by
    have := isOwnAt.at_ (List.all_eq_true.mp c.o i hi)
    rw [e] at this; cases this; rfl
   subst hk
   obtain ⟨q, hq⟩ := List.mem_iff_getElem?.mp hi
   -- the q-th slot of the call
   have hpos : ∃ j, io[q]? = some j ∧ slotAt ks j = some i := by
    have e1 : rsOf ks = (slotPos ks).filterMap (slotAt ks) := rfl
    have e2 : ∀ l : List Nat, (∀ x ∈ l, ∃ r, slotAt ks x = some r) → ∀ (q r : Nat), (l.filterMap (slotAt ks))[q]? = some r → ∃ j : Nat, l[q]? = some j ∧ slotAt ks j = some r := by
     intro l
     induction l with
     | nil => intro _ q r h; simp at h
     | cons x l ih =>
      intro hl q r h
      obtain ⟨rx, hx⟩ := hl x List.mem_cons_self
      rw [List.filterMap_cons, hx] at h
      cases q with
      | zero => simp at h; subst h; exact ⟨x, rfl, hx⟩
      | succ q =>
       obtain ⟨j, h1, h2⟩ := ih (fun y hy => hl y (List.mem_cons_of_mem _ hy)) q r (by simpa using h)
       exact ⟨j, by simpa using h1, h2⟩
    rw [← c.i]
    exact e2 _ (fun x hx => mem_slotPos.mp hx) q i (by rw [← e1, c.r]; exact hq)
   obtain ⟨j, hj, hs⟩ := hpos
   obtain ⟨v', d', h1, h2, fp, rr, nd, l⟩ := o q j hj
   have hv : v' = v := by
    have hlt : j < ds.length := by
     have h3 := (List.getElem?_eq_some_iff.mp h1).1
     have := r.len
     omega
    rcases r.at_ h1 (List.getElem?_eq_getElem hlt) with ⟨k, hk, _⟩ | ⟨q', hk, hσ, _⟩
    · unfold slotAt at hs; rw [hk] at hs; cases hs
    · unfold slotAt at hs
      rw [hk] at hs
      cases hs
      rw [a] at hσ
      cases hσ; rfl
   subst hv
   refine ⟨v', d', a, putOuts_at rs outs σD c.nd hq h2 (List.getElem?_eq_some_iff.mp b).1, fp, rr, nd, fun x hx => ?_⟩
   rw [labOut_new (call_new p (by rw [l x hx]; rfl)), l x hx]
   dsimp only
   rw [hs]
 · refine ⟨v, d, a, by rw [putOuts_ne rs outs σD hi]; exact b, vr.pres (call_pres c p) ?_ (by simp [keepL, hi])⟩
   have hg := gok.at_ g e
   have hr := List.all_eq_true.mp c.rest i (List.mem_range.mpr (List.getElem?_eq_some_iff.mp e).1)
   rw [e] at hr
   have key : ∀ R : List Lab, freeR n own.gv ks R = true → R.all (keepL [] n) = true → R.all (keepL rs n) = true := fun R h1 h2 => List.all_eq_true.mpr fun l hl => by
    have z1 := List.all_eq_true.mp h1 l hl
    have z2 := List.all_eq_true.mp h2 l hl
    cases l with
    | slt r =>
     simp only [keepL, Bool.not_eq_true', List.contains_eq_mem, decide_eq_false_iff_not]
     intro hm
     rw [← c.r] at hm
     obtain ⟨j, hj⟩ := mem_rsOf.mp hm
     rw [posL_slot c.u hj] at z1
     cases z1
    | _ => exact z2
   cases k with
   | own => rfl
   | bor R =>
    simp only [Bool.and_eq_true] at hr
    exact key R hr.2 hg
   | spn R =>
    simp only [Bool.and_eq_true] at hr
    exact key R hr.2 hg
   | exc R =>
    simp only [Bool.and_eq_true] at hr
    exact key R hr.2 hg
theorem call_pay (p : Pres (io ++ own.gv) 0 H (labIn n ks own lab) H' lab') {c : Str} {py : D} {dd : Option Addr} (h : PayM X.K (clX X) H' lab' c py dd) : PayOk X H' (labOut own n ks H lab lab') n c py dd := by
 unfold PayM at h
 unfold PayOk
 split at h
 · rename_i e; first | (rw [e]; exact h) | exact h
 · rename_i f e
   try rw [e]
   obtain ⟨d, v, j, h1, h2, hl, h3⟩ := h
   exact ⟨d, v, n, h1, h2, by rw [labOut_new (call_new p (by rw [hl]; rfl)), hl], Nat.le_refl _, call_own p h3⟩
end
section
variable {X : Cx} {W : WX} {Γx Γ : Ctx} {n lv np : Nat} {m : List Nat} {ks : List AK} {rs io xs : List Nat} {own : Ret} {Fd : List D → FR} {f : Addr} {fd : FuncData} {ps : List Str} {x : Str} {p pos : Pos} {e : Expr} {es : List Expr} {gs : List D → ER (List D)}
structure CEq (a b : CE) : Prop where
 c1 : ∀ c C, a.cl c C → b.cl c C
 c2 : ∀ c C, b.cl c C → a.cl c C
 e1 : ∀ c x d, a.ex c x d → b.ex c x d
 e2 : ∀ c x d, b.ex c x d → a.ex c x d
theorem CEq.calm (hc : X.calm = true) : CEq (clX X) (clM X.mg) := ⟨fun _ _ h => h, fun _ _ h => h, fun _ _ _ h => absurd (hc.symm.trans h.1) (by decide), fun _ _ _ h => False.elim h⟩
theorem outsR.ce {K : PySem.W.Frag} {a b : CE} {vs : List V} {H : Hp} {lab : Labs} {outs : List D} (h : outsR K a io vs H lab outs) (q : CEq a b) : outsR K b io vs H lab outs := fun x i e => by
 obtain ⟨v, d, h1, h2, h3⟩ := h x i e
 exact ⟨v, d, h1, h2, h3.ce q.c1 q.e1⟩
theorem CEq.symm {a b : CE} (q : CEq a b) : CEq b a := ⟨q.c2, q.c1, q.e2, q.e1⟩
theorem PayM.ce {K : PySem.W.Frag} {a b : CE} {H : Hp} {lab : Labs} {c : Str} {p : D} {dd : Option Addr} (h : PayM K a H lab c p dd) (q : CEq a b) : PayM K b H lab c p dd := by
 unfold PayM at h ⊢
 split at h
 · exact h
 · obtain ⟨d, v, j, h1, h2, hl, h3⟩ := h
   exact ⟨d, v, j, h1, h2, hl, h3.ce q.c1 q.e1⟩
theorem spD_call {ce : CE} (tk : L2N.Takes X W) (qe : CEq (clX X) ce) (c : CallOk Γ Γx n np io xs own ks rs) {σ : St} {H : Hp} {lab : Labs} {σD : List D} {ds : List D} {vs : List V} {Q : VK} (g : gok Γ n = true) (s : SR X Γ σ H lab σD) (r : AR X σ σD H lab n ks vs ds)
 (po : Post X W Γx Γ σ rs n (relE X n (callK own ks)) H lab Q (match Fd ds with
  | .stuck => .stuck
  | .ret d outs => .ok d (putOuts rs outs σD)
  | .exc c p outs => .exc c p (putOuts rs outs σD))) : spD X.K ce np io xs own Fd vs H Q (WE W σ) := by
 refine ⟨ds, labIn n ks own lab, by rw [r.len.1, c.l], by rw [r.len.2, c.l], fun i v d h1 h2 => (call_args c s r i v d h1 h2).ce qe.c1 qe.e1, call_labs c, (call_tb c s).ce fun f h => qe.c2 _ _ h, ?_⟩
 cases e : Fd ds with
 | stuck => rw [e] at po; exact po.elim
 | ret d outs =>
  rw [e] at po
  intro v H' lab' j pp oo vr
  refine po v H' (labOut own n ks H lab lab') (call_slots c g s r pp (oo.ce qe.symm)) (call_pres c pp) ?_
  have vr := VR.ce vr qe.c2 qe.e2
  unfold callK
  unfold retK at vr
  cases hw : own.k with
  | own => rw [hw] at vr; exact call_own pp vr
  | brw => rw [hw] at vr; exact call_bor (by rw [hw]; rfl) pp vr
  | frz => rw [hw] at vr; exact call_frz (by rw [hw]; rfl) pp vr
 | exc cn py outs =>
  rw [e] at po
  intro H' lab' C dd hc pp oo pay
  exact po H' (labOut own n ks H lab lab') C dd (qe.c2 _ _ hc) ((call_slots c g s r pp (oo.ce qe.symm)).weak c.lx) (call_pres c pp) (call_pay pp (pay.ce qe.symm))
theorem ej_call (F : FnOk X.prog X.w X.K X.mg X.base (L2N.CX X.prog X.w) lv f fd ps (spD X.K (clM X.mg) np io xs own Fd)) (hc : X.calm = true) (hr : Room lv X.A) (hm : X.mg x = some (.ref f)) (hk : PySem.W.keepIn X.K (.ref f) = true) (hb : Binds X.K fd ps []) (tk : L2N.Takes X W)
 (ha : AJ X W Γx Γ n m (e :: es) gs ks) (c : CallOk Γ Γx n np io xs own ks rs) (hg : Gl X x := by rfl) (hdb : (x == ("__debug__" : Str)) = false := by decide) (he : starEach (e :: es) X.env = (false, eval e X.env) :: starEach es X.env := by rfl) (hpl : (backTo pos (starEach es X.env)).any (·.1) = false := by rfl) :
 EJ X W Γx Γ n (m ++ rs) (.Call (.Name x p) (e :: es) [] pos) (eCall Fd rs gs) (callK own ks) := by
 refine pe_imp (pe_callS F hr hg hm hk hb (fun σ => L2N.passAt tk σ) ha hdb he hpl) fun σ H Q h => ?_
 obtain ⟨σD, lab, g, sr, po⟩ := h
 exact ⟨σD, lab, g, sr, po.seq' fun ds σD1 vs H1 lab1 sr1 pr1 rl1 po1 => spD_call tk (.calm hc) c g sr1 rl1 po1⟩
end
end Ow
namespace Ow
open PySem PySem.Spec PyProof.Rows L2
inductive SO where
 | stuck | nxt (σ : List D) | ret (d : D) (σ : List D) | exc (c : Str) (p : D) (σ : List D) | brk (σ : List D) | cnt (σ : List D)
structure SC where
 Γx : Ctx
 Γr : Ctx
 Γb : Ctx
 own : Ret
 io : List Nat
structure PresW (H : Hp) (lab : Labs) (H' : Hp) (lab' : Labs) : Prop where
 keep : ∀ a, H a ≠ none → keepL [] 0 (lab a) = true → (∀ i, lab a ≠ .slt i) → (nTb (H a) → H' a = H a) ∧ lab' a = lab a
 tk : TK H H'
 there : ∀ a, H a ≠ none → H' a ≠ none
 old : ∀ a, H' a ≠ none → oldL (lab' a) = true → H a ≠ none ∧ lab a = lab' a
 tab : ∀ P q ps, TabP H lab P q ps → ∃ ps', TabP H' lab' P q ps' ∧ NewC H ps ps'
theorem keep_any {l : Lab} (h : keepL [] 0 l = true) (h2 : ∀ i, l ≠ .slt i) (m : List Nat) (n : Nat) : keepL m n l = true := by
 cases l with
 | slt i => exact absurd rfl (h2 i)
 | tmp j => simp [keepL] at h
 | _ => rfl
theorem Pres.w {m : List Nat} {n : Nat} {H H' : Hp} {lab lab' : Labs} (p : Pres m n H lab H' lab') : PresW H lab H' lab' := ⟨fun a ha h1 h2 => p.keep a ha (keep_any h1 h2 m n), p.tk, p.there, p.old, p.tab⟩
theorem PresW.trans {H H1 H2 : Hp} {lab lab1 lab2 : Labs} (a : PresW H lab H1 lab1) (b : PresW H1 lab1 H2 lab2) : PresW H lab H2 lab2 where
 keep := fun x hx h1 h2 => by
  obtain ⟨e1, e2⟩ := a.keep x hx h1 h2
  obtain ⟨e3, e4⟩ := b.keep x (a.there x hx) (by rw [e2]; exact h1) (by rw [e2]; exact h2)
  exact ⟨fun z => (e3 (z.eq (e1 z))).trans (e1 z), e4.trans e2⟩
 tab := fun P q ps h => by
  obtain ⟨p1, t1, c1⟩ := a.tab P q ps h
  obtain ⟨p2, t2, c2⟩ := b.tab P q p1 t1
  exact ⟨p2, t2, fun pos c e => (c2 pos c e).elim (c1 pos c) fun e => .inr (Classical.byContradiction fun z => a.there c z e)⟩
 tk := a.tk.trans b.tk
 there := fun x hx => b.there x (a.there x hx)
 old := fun x hx ho => by
  obtain ⟨e1, e2⟩ := b.old x hx ho
  obtain ⟨e3, e4⟩ := a.old x e1 (by rw [e2]; exact ho)
  exact ⟨e3, e4.trans e2⟩
structure SRx (X : Cx) (io : List Nat) (fx : Nat → V) (Γ : Ctx) (σ : St) (H : Hp) (lab : Labs) (σD : List D) : Prop where
 s : SR X Γ σ H lab σD
 f : ∀ i ∈ io, σ[i]? = some (some (fx i))
def PostS (X : Cx) (W : WX) (Z : SC) (fx : Nat → V) (Γ' : Ctx) (m : List Nat) (n : Nat) (H : Hp) (lab : Labs) (E : Ends) : SO → Prop
 | .stuck => False
 | .nxt σD' => ∀ σ' H' lab', SRx X Z.io fx Γ' σ' H' lab' σD' → Pres m n H lab H' lab' → E.nx σ' H'
 | .ret d σD' => ∀ v σ' H' lab' j, SRx X Z.io fx Z.Γr σ' H' lab' σD' → PresW H lab H' lab' → VR X.K (clX X) H' lab' (retK Z.own) (.tmp j) v d → E.rt v H'
 | .exc c p σD' => ∀ σ' H' lab' C dd, X.mg c = some (.ref C) → SRx X Z.io fx Z.Γx σ' H' lab' σD' → Pres m n H lab H' lab' → PayOk X H' lab' n c p dd → W (.ref C) dd σ' H'
 | .brk σD' => ∀ σ' H' lab', SRx X Z.io fx Z.Γb σ' H' lab' σD' → Pres m n H lab H' lab' → E.bk σ' H'
 | .cnt σD' => ∀ σ' H' lab', SRx X Z.io fx Z.Γb σ' H' lab' σD' → Pres m n H lab H' lab' → E.ct σ' H'
def rdS (X : Cx) (W : WX) (Z : SC) (Γ Γ' : Ctx) (n : Nat) (m : List Nat) (G : List D → SO) : TS := fun E σ H => ∃ σD lab fx, gok Γ n = true ∧ SRx X Z.io fx Γ σ H lab σD ∧ PostS X W Z fx Γ' m n H lab E (G σD)
abbrev SJ (X : Cx) (W : WX) (Z : SC) (Γ Γ' : Ctx) (n : Nat) (m : List Nat) (st : Stmt) (G : List D → SO) : Prop := PS X st (rdS X W Z Γ Γ' n m G)
abbrev BJ (X : Cx) (W : WX) (Z : SC) (Γ Γ' : Ctx) (n : Nat) (m : List Nat) (st : List Stmt) (G : List D → SO) : Prop := PSs X st (rdS X W Z Γ Γ' n m G)
section
variable {X : Cx} {W : WX} {Z : SC} {fx : Nat → V} {Γ Γ' Γ1 Γ2 : Ctx} {n n1 : Nat} {m m1 m2 : List Nat} {H H1 : Hp} {lab lab1 : Labs} {E : Ends} {r : SO}
theorem PostS.later (h : PostS X W Z fx Γ' m n H lab E r) (p : Pres m1 n1 H lab H1 lab1) (s1 : SubK m n m1 n1) (s2 : SubK m n m2 n) : PostS X W Z fx Γ' m2 n H1 lab1 E r := by
 cases r with
 | stuck => exact h
 | nxt σ => exact fun σ' H' lab' s q => h σ' H' lab' s (p.trans q s1 s2)
 | ret d σ => exact fun v σ' H' lab' j s q r => h v σ' H' lab' j s (p.w.trans q) r
 | exc c py σ => exact fun σ' H' lab' C dd hc s q r => h σ' H' lab' C dd hc s (p.trans q s1 s2) r
 | brk σ => exact fun σ' H' lab' s q => h σ' H' lab' s (p.trans q s1 s2)
 | cnt σ => exact fun σ' H' lab' s q => h σ' H' lab' s (p.trans q s1 s2)
theorem PostS.mono (h : PostS X W Z fx Γ' m n H lab E r) (s : SubK m n m1 n1) (hn : n ≤ n1) : PostS X W Z fx Γ' m1 n1 H lab E r := by
 cases r with
 | stuck => exact h
 | nxt σ => exact fun σ' H' lab' s' q => h σ' H' lab' s' (q.mono s)
 | ret d σ => exact h
 | exc c py σ => exact fun σ' H' lab' C dd hc s' q r => h σ' H' lab' C dd hc s' (q.mono s) (r.mono hn)
 | brk σ => exact fun σ' H' lab' s' q => h σ' H' lab' s' (q.mono s)
 | cnt σ => exact fun σ' H' lab' s' q => h σ' H' lab' s' (q.mono s)
def sSeq (G1 G2 : List D → SO) : List D → SO := fun σ => match G1 σ with
 | .nxt σ1 => G2 σ1
 | r => r
def sSkip : List D → SO := fun σ => .nxt σ
theorem seq_imp {t1 t2 : TS} {G1 G2 : List D → SO} (h1 : ∀ E σ H, rdS X W Z Γ Γ1 n m1 G1 E σ H → t1 E σ H) (h2 : ∀ E σ H, rdS X W Z Γ1 Γ2 n m2 G2 E σ H → t2 E σ H) (g : gok Γ1 n = true) : ∀ E σ H, rdS X W Z Γ Γ2 n (m1 ++ m2) (sSeq G1 G2) E σ H → tSeq t1 t2 E σ H := by
 intro E σ H h
 obtain ⟨σD, lab, fx, g0, s, po⟩ := h
 refine h1 _ _ _ ⟨σD, lab, fx, g0, s, ?_⟩
 unfold sSeq at po
 cases e : G1 σD with
 | stuck => rw [e] at po; exact po
 | nxt σ1 =>
  rw [e] at po
  intro σ' H' lab' s' p
  exact h2 _ _ _ ⟨σ1, lab', fx, g, s', PostS.later po p (SubK.left _ _ _) (SubK.right _ _ _)⟩
 | ret d σ1 => rw [e] at po; exact po
 | exc c py σ1 => rw [e] at po; exact fun σ' H' lab' C dd hc s' q r => po σ' H' lab' C dd hc s' (q.mono (SubK.left _ _ _)) r
 | brk σ1 => rw [e] at po; exact fun σ' H' lab' s' q => po σ' H' lab' s' (q.mono (SubK.left _ _ _))
 | cnt σ1 => rw [e] at po; exact fun σ' H' lab' s' q => po σ' H' lab' s' (q.mono (SubK.left _ _ _))
theorem bj_cons {st : Stmt} {rest : List Stmt} {G1 G2 : List D → SO} (h1 : SJ X W Z Γ Γ1 n m1 st G1) (h2 : BJ X W Z Γ1 Γ2 n m2 rest G2) (g : gok Γ1 n = true := by decide) : BJ X W Z Γ Γ2 n (m1 ++ m2) (st :: rest) (sSeq G1 G2) :=
 pss_imp (pss_cons h1 h2) (seq_imp (fun _ _ _ q => q) (fun _ _ _ q => q) g)
theorem bj_one {st : Stmt} {G : List D → SO} (h : SJ X W Z Γ Γ1 n m st G) : BJ X W Z Γ Γ1 n m [st] G := pss_one h
theorem bj_nil : BJ X W Z Γ Γ n [] [] sSkip := pss_imp pss_nil fun E σ H h => by
 obtain ⟨σD, lab, fx, g0, s, po⟩ := h
 exact po σ H lab s (.refl _ _ _ _)
theorem bj_weak {sts : List Stmt} {G : List D → SO} (h : BJ X W Z Γ Γ1 n m sts G) (l : leC Γ1 Γ2 = true := by decide) : BJ X W Z Γ Γ2 n m sts G := pss_imp h fun E σ H hh => by
 obtain ⟨σD, lab, fx, g0, s, po⟩ := hh
 refine ⟨σD, lab, fx, g0, s, ?_⟩
 cases e : G σD with
 | nxt σ1 => rw [e] at po; exact fun σ' H' lab' s' q => po σ' H' lab' ⟨s'.s.weak l, s'.f⟩ q
 | _ => rw [e] at po; exact po
theorem sj_weak {st : Stmt} {G : List D → SO} (h : SJ X W Z Γ Γ1 n m st G) (l : leC Γ1 Γ2 = true := by decide) : SJ X W Z Γ Γ2 n m st G := ps_imp h fun E σ H hh => by
 obtain ⟨σD, lab, fx, g0, s, po⟩ := hh
 refine ⟨σD, lab, fx, g0, s, ?_⟩
 cases e : G σD with
 | nxt σ1 => rw [e] at po; exact fun σ' H' lab' s' q => po σ' H' lab' ⟨s'.s.weak l, s'.f⟩ q
 | _ => rw [e] at po; exact po
def sOf (g : List D → ER D) (k : D → List D → SO) : List D → SO := fun σ => match g σ with
 | .stuck => .stuck
 | .ok d σ1 => k d σ1
 | .exc c p σ1 => .exc c p σ1
theorem sof_imp {te : TE} {g : List D → ER D} {k : Kd} {kk : D → List D → SO} {σ : St} {Q : VK} {σD : List D} (h : ∀ σ H Q, rdE X W Z.Γx Γ n m1 k g σ H Q → te σ H Q) (g0 : gok Γ n = true) (s : SRx X Z.io fx Γ σ H lab σD) (po : PostS X W Z fx Γ' (m1 ++ m2) n H lab E (sOf g kk σD))
 (cont : ∀ d σD1 v H1 lab1, SRx X Z.io fx Γ σ H1 lab1 σD1 → Pres m1 n H lab H1 lab1 → VR X.K (clX X) H1 lab1 k (.tmp n) v d → PostS X W Z fx Γ' m2 n H1 lab1 E (kk d σD1) → Q v H1) : te σ H Q := by
 refine h _ _ _ ⟨σD, lab, g0, s.s, ?_⟩
 unfold sOf at po
 cases e : g σD with
 | stuck => rw [e] at po; exact po
 | ok d σD1 =>
  rw [e] at po
  intro v H1 lab1 s1 p1 r1
  exact cont d σD1 v H1 lab1 ⟨s1, s.f⟩ p1 r1 (PostS.later po p1 (SubK.left _ _ _) (SubK.right _ _ _))
 | exc c py σD1 =>
  rw [e] at po
  intro H1 lab1 C dd hc s1 p1 pay
  exact po σ H1 lab1 C dd hc ⟨s1, s.f⟩ (p1.mono (SubK.left _ _ _)) pay
def sIf (t : List D → ER Bool) (G1 G2 : List D → SO) : List D → SO := fun σ => match t σ with
 | .stuck => .stuck
 | .ok b σ1 => if b = true then G1 σ1 else G2 σ1
 | .exc c p σ1 => .exc c p σ1
theorem sj_if {c : Expr} {a b : List Stmt} {pos : Pos} {t : List D → ER Bool} {G1 G2 : List D → SO} {m3 : List Nat} (hc : TJ X W Z.Γx Γ n m1 c t) (ha : BJ X W Z Γ Γ' n m2 a G1) (hb : BJ X W Z Γ Γ' n m3 b G2) : SJ X W Z Γ Γ' n (m1 ++ (m2 ++ m3)) (.If c a b pos) (sIf t G1 G2) := by
 refine ps_imp (ps_if hc ha hb) fun E σ H h => ?_
 obtain ⟨σD, lab, fx, g0, s, po⟩ := h
 refine ⟨σD, lab, g0, s.s, ?_⟩
 unfold sIf at po
 cases e : t σD with
 | stuck => rw [e] at po; exact po
 | ok d σD1 =>
  rw [e] at po
  intro v H1 lab1 s1 p1 r1
  have r1 : v = d := r1
  subst r1
  have po2 := PostS.later po p1 (SubK.left _ _ _) (SubK.right _ _ _)
  cases v with
  | true => exact ⟨σD1, lab1, fx, g0, ⟨s1, s.f⟩, po2.mono (SubK.left _ _ _) (Nat.le_refl _)⟩
  | false => exact ⟨σD1, lab1, fx, g0, ⟨s1, s.f⟩, po2.mono (SubK.right _ _ _) (Nat.le_refl _)⟩
 | exc cn py σD1 =>
  rw [e] at po
  intro H1 lab1 C dd hcn s1 p1 pay
  exact po σ H1 lab1 C dd hcn ⟨s1, s.f⟩ (p1.mono (SubK.left _ _ _)) pay
def sRet (g : List D → ER D) : List D → SO := sOf g fun d σ => .ret d σ
def labRet (io : List Nat) (lab : Labs) : Labs := fun a => match lab a with
 | .slt i => if io.contains i then .slt i else .fro
 | .tmp _ => .fro
 | l => l
theorem PresW.ret {io : List Nat} {H : Hp} {lab : Labs} : PresW H lab H (labRet io lab) := ⟨fun a _ h1 h2 => ⟨fun _ => rfl, by
 unfold labRet
 split
 · rename_i i e; exact absurd e (h2 i)
 · rename_i j e; rw [e] at h1; simp [keepL] at h1
 · rfl⟩, TK.refl H, fun _ q => q, fun a q o => ⟨q, by
 unfold labRet at o ⊢
 split
 · rename_i i e
   rw [e] at o
   dsimp only at o
   split at o <;> cases o
 · rename_i j e
   rw [e] at o; cases o
 · rfl⟩, TabP.relab fun c l => by
 unfold labRet
 revert l
 cases lab c <;> intro l <;> first | rfl | cases l⟩
def retC (Γr : Ctx) (io : List Nat) : Bool := (List.range Γr.length).all fun i => match Γr[i]? with
 | some (some .own) => io.contains i
 | some (some _) => false
 | _ => true
theorem retC.at_ {Γr : Ctx} {io : List Nat} (h : retC Γr io = true) {i : Nat} {k : Kd} (e : Γr[i]? = some (some k)) : k = .own ∧ io.contains i = true := by
 have := List.all_eq_true.mp h i (List.mem_range.mpr (List.getElem?_eq_some_iff.mp e).1)
 rw [e] at this
 cases k with
 | own => exact ⟨rfl, this⟩
 | _ => cases this
theorem SR.ret {σ : St} {σD : List D} {io : List Nat} (s : SR X Γ σ H lab σD) (h : retC Γ io = true) : SR X Γ σ H (labRet io lab) σD := ⟨s.l1, s.l2, fun i k e => by
 obtain ⟨rfl, hi⟩ := retC.at_ h e
 obtain ⟨v, d, a, b, fp, r, nd, l⟩ := s.at_ i _ e
 refine ⟨v, d, a, b, fp, r, nd, fun x hx => ?_⟩
 unfold labRet
 rw [l x hx]
 dsimp only
 rw [if_pos hi], s.tb.relab fun c l => by
 unfold labRet
 revert l
 cases lab c <;> intro l <;> first | rfl | cases l⟩
theorem sj_ret {e : Expr} {pos : Pos} {g : List D → ER D} (h : EJ X W Z.Γx Γ n m e g .own) (ho : Z.own.k = .own := by rfl) (l : leC Γ Z.Γr = true := by decide) : SJ X W Z Γ Γ' n m (.Return (some e) pos) (sRet g) := by
 refine ps_imp (ps_ret h) fun E σ H hh => ?_
 obtain ⟨σD, lab, fx, g0, s, po⟩ := hh
 refine sof_imp (m2 := []) (fun _ _ _ q => q) g0 s (by rw [List.append_nil]; exact po) fun d σD1 v H1 lab1 s1 p1 r1 po1 => ?_
 exact po1 v σ H1 lab1 n ⟨s1.s.weak l, s1.f⟩ (Pres.refl [] 0 _ _).w (by unfold retK; rw [ho]; exact r1)
def sRetV (i : Nat) : List D → SO := fun σ => .ret (σ.getD i .non) σ
theorem sj_retV {i : Nat} {x : Str} {pos pos' : Pos} (h : PE X (.Name x pos') (tVar i)) (hΓ : Γ[i]? = some (some .own)) (ho : Z.own.k = .own := by rfl) (hi : Z.io.contains i = false := by decide) (l : leC Γ Z.Γr = true := by decide) (hr : retC Z.Γr Z.io = true := by decide) : SJ X W Z Γ Γ' n [] (.Return (some (.Name x pos')) pos) (sRetV i) := by
 refine ps_imp (ps_ret h) fun E σ H hh => ?_
 obtain ⟨σD, lab, fx, g0, s, po⟩ := hh
 obtain ⟨v, hv, fp, r, nd, lb⟩ := s.s.get hΓ
 let lab2 : Labs := fun a => if lab a = .slt i then .tmp 0 else lab a
 have fr : ∀ c, staysL (lab c) = true → staysL (lab2 c) = true := fun c l => by
  rw [show lab2 c = lab c from if_neg (by intro z; rw [z] at l; cases l)]
  exact l
 have P : PresW H lab H lab2 := ⟨fun a _ h1 h2 => ⟨fun _ => rfl, if_neg (h2 i)⟩, TK.refl H, fun _ q => q, fun a q o => ⟨q, by
  show lab a = if lab a = .slt i then _ else _
  by_cases z : lab a = .slt i
  · have : lab2 a = .tmp 0 := if_pos z
    rw [this] at o; cases o
  · rw [if_neg z]⟩, TabP.relab fr⟩
 refine ⟨v, hv, po v σ H lab2 0 ⟨⟨s.s.l1, s.s.l2, fun q k e => ?_, s.s.tb.relab fr⟩, s.f⟩ P ?_⟩
 · obtain ⟨rfl, hq⟩ := retC.at_ hr e
   obtain ⟨w, d, a, b, fp', r', nd', l'⟩ := (s.s.weak l).at_ q _ e
   refine ⟨w, d, a, b, fp', r', nd', fun x hx => ?_⟩
   show (if lab x = .slt i then _ else _) = _
   rw [if_neg, l' x hx]
   rw [l' x hx]
   intro z
   cases z
   rw [hq] at hi; cases hi
 · unfold retK
   rw [ho]
   exact ⟨fp, r, nd, fun a ha => if_pos (lb a ha)⟩
def sRetN : List D → SO := fun σ => .ret .non σ
def dropL (i : Nat) (R : List Lab) : List Lab := R.filter fun l => decide (l ≠ .slt i)
def dropK (i : Nat) : Kd → Kd
 | .own => .own
 | .bor R => .bor (dropL i R)
 | .spn R => .spn (dropL i R)
 | .exc R => .exc (dropL i R)
def putC (Γ : Ctx) (i : Nat) (k : Kd) : Ctx := (Γ.map fun o => o.map (dropK i)).set i (some (dropK i k))
def labPut (i n : Nat) (lab : Labs) : Labs := fun a => if lab a = .slt i then .fro else if lab a = .tmp n then .slt i else lab a
theorem bw_put {i n : Nat} {R : List Lab} {l : Lab} (b : bw R l) (h : R.all (keepL [] n) = true) : bw (dropL i R) (if l = .slt i then .fro else if l = .tmp n then .slt i else l) := by
 rcases b with e | b
 · subst e; exact .inl rfl
 · by_cases e : l = .slt i
   · rw [if_pos e]; exact .inl rfl
   · rw [if_neg e]
     have z := List.all_eq_true.mp h l b
     rw [if_neg (by rintro rfl; simp [keepL] at z)]
     exact .inr (List.mem_filter.mpr ⟨b, decide_eq_true e⟩)
theorem VR.put_other {K : PySem.W.Frag} {cl : CE} {i j n : Nat} {k : Kd} {v : V} {d : D} (h : VR K cl H lab k (.slt j) v d) (ne : j ≠ i) (ok : okK [] n k = true) : VR K cl H (labPut i n lab) (dropK i k) (.slt j) v d := by
 have lj : ∀ {a : Addr}, lab a = .slt j → labPut i n lab a = .slt j := fun {a} e => by
  unfold labPut
  rw [e, if_neg (by intro z; cases z; exact ne rfl), if_neg (by intro z; cases z)]
 cases k with
 | own =>
  obtain ⟨fp, r, nd, l⟩ := h
  exact ⟨fp, r, nd, fun a ha => lj (l a ha)⟩
 | bor R =>
  obtain ⟨fp, r, l⟩ := h
  exact ⟨fp, r, fun a ha => bw_put (l a ha) ok⟩
 | spn R =>
  obtain ⟨p, vs, ds, fp, e1, e2, hp, r, lp, l⟩ := h
  exact ⟨p, vs, ds, fp, e1, e2, hp, r, lj lp, fun b hb => ⟨(l b hb).1, bw_put (l b hb).2 ok⟩⟩
 | exc R =>
  obtain ⟨fp, r, l, u⟩ := h
  refine ⟨fp, r, fun a ha => bw_put (l a ha) ok, fun z => ?_⟩
  obtain ⟨u1, u2, u3⟩ := u (List.mem_filter.mp z).1
  exact ⟨List.mem_filter.mpr ⟨u1, decide_eq_true (fun e => ne (Lab.slt.inj e))⟩, u2, fun a ha => lj (u3 a ha)⟩
theorem VR.put_self {K : PySem.W.Frag} {cl : CE} {i n : Nat} {k : Kd} {v : V} {d : D} (h : VR K cl H lab k (.tmp n) v d) (ok : okK [] n k = true) : VR K cl H (labPut i n lab) (dropK i k) (.slt i) v d := by
 have lj : ∀ {a : Addr}, lab a = .tmp n → labPut i n lab a = .slt i := fun {a} e => by
  unfold labPut
  rw [e, if_neg (by intro z; cases z), if_pos rfl]
 cases k with
 | own =>
  obtain ⟨fp, r, nd, l⟩ := h
  exact ⟨fp, r, nd, fun a ha => lj (l a ha)⟩
 | bor R =>
  obtain ⟨fp, r, l⟩ := h
  exact ⟨fp, r, fun a ha => bw_put (l a ha) ok⟩
 | spn R =>
  obtain ⟨p, vs, ds, fp, e1, e2, hp, r, lp, l⟩ := h
  exact ⟨p, vs, ds, fp, e1, e2, hp, r, lj lp, fun b hb => ⟨(l b hb).1, bw_put (l b hb).2 ok⟩⟩
 | exc R =>
  obtain ⟨fp, r, l, u⟩ := h
  refine ⟨fp, r, fun a ha => bw_put (l a ha) ok, fun z => ?_⟩
  have := List.all_eq_true.mp ok _ (u (List.mem_filter.mp z).1).1
  simp [keepL] at this
theorem Pres.put {i n : Nat} : Pres [i] n H lab H (labPut i n lab) := .relab (fun a h => by
 unfold labPut
 rw [if_neg (by intro e; rw [e] at h; simp [keepL] at h), if_neg (by intro e; rw [e] at h; simp [keepL] at h)]) fun a h => by
 unfold labPut at h ⊢
 split at h
 · cases h
 · rename_i h1
   split at h
   · cases h
   · rename_i h2
     rw [if_neg h1, if_neg h2]
theorem SR.put {σ : St} {σD : List D} {i : Nat} {k : Kd} {v : V} {d : D} (s : SR X Γ σ H lab σD) (g : gok Γ n = true) (hi : i < X.N.length) (h : VR X.K (clX X) H lab k (.tmp n) v d) (ok : okK [] n k = true) : SR X (putC Γ i k) (σ.set i (some v)) H (labPut i n lab) (σD.set i d) := by
 refine ⟨by rw [List.length_set]; exact s.l1, by rw [List.length_set]; exact s.l2, fun j k' e => ?_, s.tb.relab fun c l => by
  unfold labPut
  rw [if_neg (by intro z; rw [z] at l; cases l), if_neg (by intro z; rw [z] at l; cases l)]
  exact l⟩
 by_cases ne : j = i
 · subst ne
   unfold putC at e
   have hl : j < (Γ.map fun o => o.map (dropK j)).length := by
    have := (List.getElem?_eq_some_iff.mp e).1
    rwa [List.length_set] at this
   rw [List.getElem?_set_self hl] at e
   cases e
   exact ⟨v, d, List.getElem?_set_self (by rw [s.l1]; exact hi), List.getElem?_set_self (by rw [s.l2]; exact hi), h.put_self ok⟩
 · unfold putC at e
   rw [List.getElem?_set_ne (Ne.symm ne), List.getElem?_map] at e
   cases e2 : Γ[j]? with
   | none => rw [e2] at e; cases e
   | some o =>
    rw [e2] at e
    cases o with
    | none => cases e
    | some k0 =>
     cases e
     obtain ⟨w, d', a, b, c⟩ := s.at_ j k0 e2
     exact ⟨w, d', by rw [List.getElem?_set_ne (Ne.symm ne)]; exact a, by rw [List.getElem?_set_ne (Ne.symm ne)]; exact b, c.put_other ne (gok.at_ g e2)⟩
def sSet (i : Nat) (g : List D → ER D) : List D → SO := sOf g fun d σ => .nxt (σ.set i d)
theorem sj_set {i : Nat} {x : Str} {e : Expr} {pos pos' : Pos} {g : List D → ER D} {k : Kd} (hN : X.N.Nodup) (hi : X.N[i]? = some x) (h : EJ X W Z.Γx Γ n m e g k) (hx : Loc X.env.scope x := by first | exact Or.inl rfl | exact Or.inr rfl) (ok : okK [] n k = true := by decide) (hio : Z.io.contains i = false := by decide)
 (hs : swapsWith e (some (.Name x pos')) pos.line X.env = pure false := by rfl) (hf : X.fn x = true ∨ X.env.scope.names.lookup x = some .local := by first | exact .inl rfl | exact .inr rfl) : SJ X W Z Γ (putC Γ i k) n (m ++ [i]) (.Assign [.Name x pos'] e pos) (sSet i g) := by
 refine ps_imp (ps_set hN hi hx h hs hf) fun E σ H hh => ?_
 obtain ⟨σD, lab, fx, g0, s, po⟩ := hh
 refine sof_imp (fun _ _ _ q => q) g0 s po fun d σD1 v H1 lab1 s1 p1 r1 po1 => ?_
 have hlt : i < X.N.length := (List.getElem?_eq_some_iff.mp hi).1
 refine po1 (σ.set i (some v)) H1 (labPut i n lab1) ⟨s1.s.put g0 hlt r1 ok, fun j hj => ?_⟩ .put
 rw [List.getElem?_set_ne]
 · exact s1.f j hj
 · rintro rfl
   have : Z.io.contains i = true := by simpa using hj
   rw [this] at hio; cases hio
end
end Ow
namespace Ow
open PySem PySem.Spec PyProof.Rows L2
def fnD (nl : Nat) (io : List Nat) (G : List D → SO) : List D → FR := fun ds => match G (ds ++ List.replicate (nl - ds.length) .non) with
 | .nxt σ => .ret .non (io.map fun i => σ.getD i .non)
 | .ret d σ => .ret d (io.map fun i => σ.getD i .non)
 | .exc c p σ => .exc c p (io.map fun i => σ.getD i .non)
 | _ => .stuck
def ctx0 (np nl : Nat) (io xs : List Nat) (own : Ret) : Ctx := (List.range nl).map fun i => if i < np then some (parK io xs own i) else none
def ctxIo (nl : Nat) (io : List Nat) : Ctx := (List.range nl).map fun i => if io.contains i then some .own else none
abbrev scOf (nl : Nat) (io : List Nat) (own : Ret) : SC := ⟨ctxIo nl io, ctxIo nl io, [], own, io⟩
abbrev wOf (E : XK) : WX := fun cls d _ H => E cls d H
theorem ctx0_at {np nl : Nat} {io xs : List Nat} {own : Ret} {i : Nat} {k : Kd} (h : (ctx0 np nl io xs own)[i]? = some (some k)) : i < np ∧ k = parK io xs own i := by
 unfold ctx0 at h
 rw [List.getElem?_map] at h
 cases e : (List.range nl)[i]? with
 | none => rw [e] at h; cases h
 | some j =>
  have : j = i := by
   obtain ⟨h1, h2⟩ := List.getElem?_eq_some_iff.mp e
   simpa using h2.symm
  subst this
  rw [e] at h
  simp only [Option.map_some, Option.some.injEq] at h
  split at h
  · rename_i q
    exact ⟨q, (Option.some.inj h).symm⟩
  · cases h
theorem ctxIo_at {nl : Nat} {io : List Nat} {i : Nat} (h : i < nl) (hi : i ∈ io) : (ctxIo nl io)[i]? = some (some .own) := by
 unfold ctxIo
 rw [List.getElem?_map, List.getElem?_range h]
 simp [hi]
theorem presIo {io : List Nat} {H H' : Hp} {lab lab' : Labs} (p : PresW H lab H' lab') (hl : ∀ a, H a ≠ none → lab a = .out ∨ lab a = .prm ∨ lab a = .fro ∨ ∃ i ∈ io, lab a = .slt i) : Pres io 0 H lab H' lab' :=
 ⟨fun a ha hk => by
  rcases hl a ha with e | e | e | ⟨i, hi, e⟩
  · exact p.keep a ha (by rw [e]; rfl) (by rw [e]; intro i z; cases z)
  · exact p.keep a ha (by rw [e]; rfl) (by rw [e]; intro i z; cases z)
  · exact p.keep a ha (by rw [e]; rfl) (by rw [e]; intro i z; cases z)
  · rw [e] at hk; simp [keepL, hi] at hk, p.tk, p.there, p.old, p.tab⟩
theorem outs_of {X : Cx} {io : List Nat} {fx : Nat → V} {nl : Nat} {σ : St} {H : Hp} {lab : Labs} {σD : List D} {vs : List V} (s : SRx X io fx (ctxIo nl io) σ H lab σD) (hf : ∀ i ∈ io, vs[i]? = some (fx i)) (hn : ∀ i ∈ io, i < nl) : outsR X.K (clX X) io vs H lab (io.map fun i => σD.getD i .non) := by
 intro q i hq
 have hi : i ∈ io := List.mem_of_getElem? hq
 obtain ⟨v, hv, r⟩ := s.s.get (ctxIo_at (hn i hi) hi)
 have e := s.f i hi
 rw [hv] at e
 cases e
 exact ⟨fx i, _, hf i hi, by rw [List.getElem?_map, hq]; rfl, r⟩
theorem pay_of {X : Cx} {H : Hp} {lab : Labs} {n : Nat} {c : Str} {p : D} {dd : Option Addr} (h : PayOk X H lab n c p dd) : PayM X.K (clX X) H lab c p dd := by
 unfold PayOk at h
 unfold PayM
 split at h
 · rename_i e; first | (rw [e]; exact h) | exact h
 · rename_i f e
   try rw [e]
   obtain ⟨d, v, j, h1, h2, hl, h3, h4⟩ := h
   exact ⟨d, v, j, h1, h2, hl, h4⟩
theorem okD_read {X : Cx} {ce : CE} {np nl : Nat} {io xs m : List Nat} {own : Ret} {G : List D → SO} {Γ' : Ctx} (q : CEq (clX X) ce) (hnl : X.N.length = nl) (hio : io.all (fun i => decide (i < np)) = true) (hpn : np ≤ nl) (hl : leC Γ' (ctxIo nl io) = true)
 {vs : List V} {H : Hp} {Q : VK} {E : XK} (h : spD X.K ce np io xs own (fnD nl io G) vs H Q E) : rdS X (wOf E) (scOf nl io own) (ctx0 np nl io xs own) Γ' 0 m G { nx := fun _ H' => Q .non H', rt := Q } (L2.start X.N vs) H := by
 obtain ⟨ds, lab, h1, h2, h3, h4, htb, h5⟩ := h
 have hlt : ∀ i ∈ io, i < np := fun i hi => of_decide_eq_true (List.all_eq_true.mp hio i hi)
 let fx : Nat → V := fun i => vs.getD i .non
 have hfx : ∀ i ∈ io, vs[i]? = some (fx i) := fun i hi => by
  show vs[i]? = some (vs.getD i .non)
  rw [List.getD_eq_getElem?_getD, List.getElem?_eq_getElem (by rw [h1]; exact hlt i hi)]
  rfl
 have hst : ∀ (i : Nat) v, vs[i]? = some v → (L2.start X.N vs)[i]? = some (some v) := fun i v e => by
  unfold L2.start
  have := (List.getElem?_eq_some_iff.mp e).1
  rw [List.getElem?_append_left (by simpa using this), List.getElem?_map, e]
  rfl
 have lN : (L2.start X.N vs).length = X.N.length := by
  unfold L2.start
  rw [List.length_append, List.length_map, List.length_replicate]
  omega
 refine ⟨ds ++ List.replicate (nl - ds.length) .non, lab, fx, ?_, ⟨⟨lN, ?_, fun i k e => ?_, htb.ce fun f h => q.c1 _ _ h⟩, fun i hi => hst i _ (hfx i hi)⟩, ?_⟩
 · refine List.all_eq_true.mpr fun o ho => ?_
   obtain ⟨i, hi⟩ := List.mem_iff_getElem?.mp ho
   cases o with
   | none => rfl
   | some k =>
    obtain ⟨_, e⟩ := ctx0_at hi
    show okK [] 0 k = true
    rw [e]
    unfold parK
    split
    · rfl
    · split
      · rfl
      · split
        · rfl
        · split <;> rfl
 · rw [List.length_append, List.length_replicate]
   omega
 · obtain ⟨hi, rfl⟩ := ctx0_at e
   have e1 : vs[i]? = some (vs[i]'(by omega)) := List.getElem?_eq_getElem _
   have e2 : ds[i]? = some (ds[i]'(by omega)) := List.getElem?_eq_getElem _
   exact ⟨_, _, hst i _ e1, by rw [List.getElem?_append_left (by omega)]; exact e2, (h3 i _ _ e1 e2).ce q.c2 q.e2⟩
 · unfold fnD at h5
   have hn : ∀ i ∈ io, i < nl := fun i hi => Nat.lt_of_lt_of_le (hlt i hi) hpn
   cases e : G (ds ++ List.replicate (nl - ds.length) .non) with
   | stuck => rw [e] at h5; exact h5
   | brk σ => rw [e] at h5; exact h5.elim
   | cnt σ => rw [e] at h5; exact h5.elim
   | nxt σ =>
    rw [e] at h5
    intro σ' H' lab' s' p
    refine h5 .non H' lab' 0 (presIo p.w h4) ((outs_of ⟨s'.s.weak hl, s'.f⟩ hfx hn).ce q) ?_
    unfold retK
    cases own.k with
    | own => exact SV.non.vr
    | brw => exact ⟨[], .non, by simp⟩
    | frz => exact ⟨[], .non, by simp⟩
   | ret d σ =>
    rw [e] at h5
    intro v σ' H' lab' j s' p r
    exact h5 v H' lab' j (presIo p h4) ((outs_of s' hfx hn).ce q) (r.ce q.c1 q.e1)
   | exc c py σ =>
    rw [e] at h5
    intro σ' H' lab' C dd hc s' p pay
    exact h5 H' lab' C dd (q.c1 _ _ hc) (presIo p.w h4) ((outs_of s' hfx hn).ce q) ((pay_of pay).ce q)
section
variable {P : Program} {w : World} {K : PySem.W.Frag} {mg : Str → Option Value} {base : Heap}
end
open Classical in
section
variable {X : Cx} {W : WX} {Z : SC} {fx : Nat → V} {Γ Γ' Γ1 Γ2 : Ctx} {n n1 : Nat} {m m1 m2 : List Nat} {H H1 : Hp} {lab lab1 : Labs} {E : Ends} {r : SO} {pos : Pos}
def sBrk : List D → SO := fun σ => .brk σ
def sCnt : List D → SO := fun σ => .cnt σ
def sPar (i j : Nat) (gs : List D → ER (List D)) : List D → SO := fun σ => match gs σ with
 | .stuck => .stuck
 | .exc c p σ1 => .exc c p σ1
 | .ok [x, y] σ1 => .nxt ((σ1.set i x).set j y)
 | .ok _ _ => .stuck
theorem sj_par {i j : Nat} {x y : Str} {a b : Expr} {px py pt : Pos} {kt k2 pt2} {k1 k3 : Kd} {gs : List D → ER (List D)} (hc : X.calm = true) (hN : X.N.Nodup) (hi : X.N[i]? = some x) (hj : X.N[j]? = some y) (ha : AJ X W Z.Γx Γ n m [a, b] gs [.val k1, .val k3])
 (hw : swappedStores [.Tuple [.Name x px, .Name y py] kt pt] (.Tuple [a, b] k2 pt2) X.env = pure (some [x, y]) := by rfl) (hx : X.env.scope.names.lookup x = some .local := by rfl) (hy : X.env.scope.names.lookup y = some .local := by rfl) (hij : i ≠ j := by decide)
 (o1 : okK [] n k1 = true := by decide) (o2 : okK [] (n + 1) (dropK i k3) = true := by decide) (o3 : okK [] n k3 = true := by decide) (hio : (Z.io.contains i || Z.io.contains j) = false := by decide)
 (hs : swapsWithSole [.Tuple [.Name x px, .Name y py] kt pt] (.Tuple [a, b] k2 pt2) pos.line X.env = pure false := by rfl) :
 SJ X W Z Γ (putC (putC Γ i k1) j (dropK i k3)) n (m ++ [i, j]) (.Assign [.Tuple [.Name x px, .Name y py] kt pt] (.Tuple [a, b] k2 pt2) pos) (sPar i j gs) := by
 refine ps_imp (ps_par hc hN hi hj hij hx hy ha hw hs) fun E σ H h => ?_
 obtain ⟨σD, lab, fx, g0, s, po⟩ := h
 refine ⟨σD, lab, g0, s.s, ?_⟩
 unfold sPar at po
 cases e : gs σD with
 | stuck => rw [e] at po; exact po
 | exc cn py' σ1 =>
  rw [e] at po
  intro H1 lab1 C dd hcn s1 p1 pay
  exact po σ H1 lab1 C dd hcn ⟨s1, s.f⟩ (p1.mono (SubK.left _ _ _)) pay
 | ok ds σ1 =>
  rw [e] at po
  intro vs H1 lab1 s1 p1 r1
  obtain ⟨v, vs', d, ds', e1, e2, r, v2, vs2, d2, ds2, e3, e4, r2, e5, e6⟩ := r1
  subst e1 e2 e3 e4 e5 e6
  refine ⟨v, v2, rfl, ?_⟩
  have li : i < X.N.length := (List.getElem?_eq_some_iff.mp hi).1
  have lj : j < X.N.length := (List.getElem?_eq_some_iff.mp hj).1
  have A := s1.put g0 li r o1
  have g1 : gok (putC Γ i k1) (n + 1) = true := by
   refine List.all_eq_true.mpr fun o ho => ?_
   obtain ⟨q, hq⟩ := List.mem_iff_getElem?.mp ho
   have sub : ∀ R : List Lab, R.all (keepL [] n) = true → (dropL i R).all (keepL [] (n + 1)) = true := fun R hR => List.all_eq_true.mpr fun l hl => keepL.up (List.all_eq_true.mp hR l (List.mem_filter.mp hl).1)
   have subK : ∀ k : Kd, okK [] n k = true → okK [] (n + 1) (dropK i k) = true := fun k hk => by
    cases k with
    | own => rfl
    | bor R => exact sub R hk
    | spn R => exact sub R hk
    | exc R => exact sub R hk
   unfold putC at hq
   by_cases z : q = i
   · subst z
     have hl : q < (Γ.map fun o => o.map (dropK q)).length := by
      have := (List.getElem?_eq_some_iff.mp hq).1
      rwa [List.length_set] at this
     rw [List.getElem?_set_self hl] at hq
     cases hq
     exact subK _ o1
   · rw [List.getElem?_set_ne (Ne.symm z), List.getElem?_map] at hq
     cases e2 : Γ[q]? with
     | none => rw [e2] at hq; cases hq
     | some o' =>
      rw [e2] at hq
      cases o' with
      | none => cases hq; rfl
      | some k0 => cases hq; exact subK _ (gok.at_ g0 e2)
  -- the second value behind the first store
  have r2' : VR X.K (clX X) H1 (labPut i n lab1) (dropK i k3) (.tmp (n + 1)) v2 d2 := by
   have lt : ∀ {a : Addr}, lab1 a = .tmp (n + 1) → labPut i n lab1 a = .tmp (n + 1) := fun {a} e => by
    unfold labPut
    rw [e, if_neg (by intro z; cases z), if_neg (by intro z; injection z; omega)]
   cases k3 with
   | own =>
    obtain ⟨fp, r, nd, l⟩ := r2
    exact ⟨fp, r, nd, fun a ha => lt (l a ha)⟩
   | bor R =>
    obtain ⟨fp, r, l⟩ := r2
    exact ⟨fp, r, fun a ha => bw_put (l a ha) o3⟩
   | spn R =>
    obtain ⟨p, vs, ds, fp, e1, e2, hp, r, lp, l⟩ := r2
    exact ⟨p, vs, ds, fp, e1, e2, hp, r, lt lp, fun b hb => ⟨(l b hb).1, bw_put (l b hb).2 o3⟩⟩
   | exc R =>
    obtain ⟨fp, r, l, u⟩ := r2
    refine ⟨fp, r, fun a ha => bw_put (l a ha) o3, fun z => ?_⟩
    have := List.all_eq_true.mp o3 _ (u (List.mem_filter.mp z).1).1
    simp [keepL] at this <;> omega
  have B := A.put g1 lj r2' o2
  refine po _ H1 _ ⟨B, fun q hq => ?_⟩ ?_
  · have z1 : q ≠ i := by
     rintro rfl
     have : Z.io.contains q = true := by simpa using hq
     rw [this] at hio; cases hio
    have z2 : q ≠ j := by
     rintro rfl
     have : Z.io.contains q = true := by simpa using hq
     rw [this, Bool.or_true] at hio; cases hio
    rw [List.getElem?_set_ne (Ne.symm z2), List.getElem?_set_ne (Ne.symm z1)]
    exact s.f q hq
  · have P1 : Pres (m ++ [i, j]) n H lab H1 lab1 := p1.mono (SubK.left _ _ _)
    refine P1.trans (m2 := m ++ [i, j]) (n2 := n) ?_ (SubK.refl _ _) (SubK.refl _ _)
    have Q1 : Pres (m ++ [i, j]) n H1 lab1 H1 (labPut i n lab1) := Pres.put.mono (.of (fun q hq => by simp at hq; simp [hq]) (Nat.le_refl _))
    have Q2 : Pres (m ++ [i, j]) n H1 (labPut i n lab1) H1 (labPut j (n + 1) (labPut i n lab1)) := Pres.put.mono (.of (fun q hq => by simp at hq; simp [hq]) (Nat.le_succ _))
    exact Q1.trans Q2 (SubK.refl _ _) (SubK.refl _ _)
end
end Ow
namespace Ow
open PySem PySem.Spec PyProof.Rows L2
def noBor (Γ : Ctx) (r : Nat) : Bool := (List.range Γ.length).all fun i => match Γ[i]? with
 | some (some .own) => true
 | some (some (.bor R)) => decide (i ≠ r) && R.all fun l => decide (l ≠ .slt r)
 | some (some (.spn R)) => decide (i ≠ r) && R.all fun l => decide (l ≠ .slt r)
 | some (some (.exc R)) => decide (i ≠ r) && R.all fun l => decide (l ≠ .slt r)
 | _ => true
theorem noBor.at_ {Γ : Ctx} {r n : Nat} (h : noBor Γ r = true) (g : gok Γ n = true) {i : Nat} {k : Kd} (e : Γ[i]? = some (some k)) (ne : i ≠ r) : okK [r] n k = true ∧ keepL [r] n (.slt i) = true := by
 have := List.all_eq_true.mp h i (List.mem_range.mpr (List.getElem?_eq_some_iff.mp e).1)
 rw [e] at this
 have hg := gok.at_ g e
 have key : ∀ R : List Lab, (R.all fun l => decide (l ≠ .slt r)) = true → R.all (keepL [] n) = true → R.all (keepL [r] n) = true := fun R h1 h2 => List.all_eq_true.mpr fun l hl => by
  have z1 := of_decide_eq_true (List.all_eq_true.mp h1 l hl)
  have z2 := List.all_eq_true.mp h2 l hl
  cases l with
  | slt q =>
   have : q ≠ r := fun z => z1 (by rw [z])
   simp [keepL, this]
  | _ => exact z2
 refine ⟨?_, by simp [keepL, ne]⟩
 cases k with
 | own => rfl
 | bor R => simp only [Bool.and_eq_true] at this; exact key R this.2 hg
 | spn R => simp only [Bool.and_eq_true] at this; exact key R this.2 hg
 | exc R => simp only [Bool.and_eq_true] at this; exact key R this.2 hg
section
variable {X : Cx} {W : WX} {Z : SC} {Γx Γ Γ' : Ctx} {n r : Nat} {m m1 m2 : List Nat} {σ : St} {H : Hp} {lab : Labs} {σD : List D} {pos : Pos}
def labMut (r n : Nat) (f' fz : List Addr) (lab : Labs) : Labs := fun b => if b ∈ fz then .tmp n else if b ∈ f' then .slt r else lab b
theorem SR.mut {a : Addr} {u o : HO} {f' fz : List Addr} {d' : D} (s : SR X Γ σ H lab σD) (g : gok Γ n = true) (hb : noBor Γ r = true) (hΓ : Γ[r]? = some (some .own)) (hσ : σ[r]? = some (some (.ref a))) (ha : H a = some u) (mu : isMut u)
 (rp : Rp X.K (clX X) (upd H a o) (.ref a) d' f') (nd : (f' ++ fz).Nodup) (hl : ∀ b ∈ a :: (f' ++ fz), lab b = .slt r ∨ ∃ j, n ≤ j ∧ lab b = .tmp j) :
 SR X Γ σ (upd H a o) (labMut r n f' fz lab) (σD.set r d') ∧ Pres [r] n H lab (upd H a o) (labMut r n f' fz lab) := by
 have nk : ∀ b ∈ a :: (f' ++ fz), keepL [r] n (lab b) = false := fun b hb => by
  rcases hl b hb with e | ⟨j, hj, e⟩
  · rw [e]; simp [keepL]
  · rw [e]; simp [keepL]; omega
 have P1 : Pres [r] n H lab (upd H a o) lab := .mut ha mu (nk a List.mem_cons_self)
 have P2 : Pres [r] n (upd H a o) lab (upd H a o) (labMut r n f' fz lab) := .relab (fun b hk => by
  unfold labMut
  rw [if_neg (fun z => by rw [nk b (List.mem_cons_of_mem _ (List.mem_append_right _ z))] at hk; exact Bool.noConfusion hk), if_neg (fun z => by rw [nk b (List.mem_cons_of_mem _ (List.mem_append_left _ z))] at hk; exact Bool.noConfusion hk)]) fun b ho => by
  unfold labMut at ho ⊢
  split at ho
  · cases ho
  · rename_i h1
    split at ho
    · cases ho
    · rename_i h2
      rw [if_neg h1, if_neg h2]
 have P := P1.trans P2 (SubK.refl _ _) (SubK.refl _ _)
 refine ⟨⟨s.l1, by rw [List.length_set]; exact s.l2, fun i k e => ?_, s.tb.pres P⟩, P⟩
 obtain ⟨v, d, h1, h2, h3⟩ := s.at_ i k e
 by_cases ne : i = r
 · subst ne
   rw [hσ] at h1
   cases h1
   rw [hΓ] at e
   cases e
   refine ⟨.ref a, d', hσ, List.getElem?_set_self (List.getElem?_eq_some_iff.mp h2).1, f', rp, (List.nodup_append.mp nd).1, fun b hb => ?_⟩
   unfold labMut
   rw [if_neg fun z => (List.nodup_append.mp nd).2.2 b hb b z rfl, if_pos hb]
 · obtain ⟨g1, g2⟩ := noBor.at_ hb g e ne
   exact ⟨v, d, h1, by rw [List.getElem?_set_ne (Ne.symm ne)]; exact h2, h3.pres P g1 g2⟩
def dSetIx (c i v : D) : Option D := match c, i with
 | .lst ds, .int j => (ixN ds.length j).map fun q => .lst (ds.set q v)
 | _, _ => none
def sSetIx (r : Nat) (gv gi : List D → ER D) : List D → SO := sOf gv fun v => sOf gi fun i σ => match dSetIx (σ.getD r .non) i v with
 | some c => .nxt (σ.set r c)
 | none => .stuck
theorem RpL.disj {K : PySem.W.Frag} {cl : CE} {vs : List V} {ds : List D} {f : List Addr} (h : RpL K cl H vs ds f) {a : Addr} {o : HO} (ha : a ∉ f) (hm : ∃ u, H a = some u ∧ isMut u) : RpL K cl (upd H a o) vs ds f := by
 obtain ⟨u, hu, mu⟩ := hm
 exact h.ext (TK.mut hu mu) fun b hb => upd_ne fun z => ha (z ▸ hb)
theorem Rp.disj {K : PySem.W.Frag} {cl : CE} {v : V} {d : D} {f : List Addr} (h : Rp K cl H v d f) {a : Addr} {o : HO} (ha : a ∉ f) (hm : ∃ u, H a = some u ∧ isMut u) : Rp K cl (upd H a o) v d f := by
 obtain ⟨u, hu, mu⟩ := hm
 exact h.ext (TK.mut hu mu) fun b hb => upd_ne fun z => ha (z ▸ hb)
theorem VR.own_lst {K : PySem.W.Frag} {cl : CE} {t : Lab} {v : V} {ds : List D} (h : VR K cl H lab .own t v (.lst ds)) :
 (∃ a vs fp, v = .ref a ∧ H a = some (.lst vs) ∧ RpL K cl H vs ds fp ∧ a ∉ fp ∧ fp.Nodup ∧ lab a = t ∧ ∀ b ∈ fp, lab b = t) := by
 obtain ⟨fp, r, nd, l⟩ := h
 cases r with
 | lst h r =>
  rw [List.nodup_cons] at nd
  exact ⟨_, _, _, rfl, h, r, nd.1, nd.2, l _ List.mem_cons_self, fun b hb => l b (List.mem_cons_of_mem _ hb)⟩
theorem sj_setix {x : Str} {e ie : Expr} {px tpos : Pos} {gv gi : List D → ER D} {k : Kd} (hx : PE X (.Name x px) (tVar r)) (he : EJ X W Z.Γx Γ n m1 e gv .own) (hi : EJ X W Z.Γx Γ (n + 1) m2 ie gi k) (hr : Γ[r]? = some (some .own) := by rfl) (hb : noBor Γ r = true := by decide)
 (ha : ∀ v, assign (.Subscript (.Name x px) ie tpos) X.env v = (do
  let ov ← holding [v] (eval (.Name x px) X.env)
  let iv ← holding [v, ov] (eval ie X.env)
  standAt tpos
  holding [v, ov, iv] (setItem ov iv v)
  release [v, ov, iv] []) := by intro _; rfl)
 (hs : swapsWithSole [.Subscript (.Name x px) ie tpos] e pos.line X.env = pure false := by rfl) (hw : swappedStores [.Subscript (.Name x px) ie tpos] e X.env = pure none := by rfl)
 (h1 : (assignEach [.Subscript (.Name x px) ie tpos] X.env).map (·.2) = [assign (.Subscript (.Name x px) ie tpos) X.env] := by rfl) :
 SJ X W Z Γ Γ n (m1 ++ (m2 ++ [r])) (.Assign [.Subscript (.Name x px) ie tpos] e pos) (sSetIx r gv gi) := by
 refine ps_imp (ps_asg he (pg_sub hx hi set_list ha) hs hw h1) fun E σ H hh => ?_
 obtain ⟨σD, lab, fx, g0, s, po⟩ := hh
 refine sof_imp (fun _ _ _ q => q) g0 s po fun d σD1 v H1 lab1 s1 p1 r1 po1 => ?_
 obtain ⟨vr, hvr, _⟩ := s1.s.get hr
 refine ⟨vr, hvr, ?_⟩
 -- the index, at n + 1
 have po1' := po1.mono (m1 := m2 ++ [r]) (n1 := n) (SubK.refl _ _) (Nat.le_refl _)
 unfold sOf at po1'
 refine ⟨σD1, lab1, gok.up g0, s1.s, ?_⟩
 cases e2 : gi σD1 with
 | stuck => rw [e2] at po1'; exact po1'
 | exc cn py σD2 =>
  rw [e2] at po1'
  intro H2 lab2 C dd hc s2 p2 pay
  exact po1' σ H2 lab2 C dd hc ⟨s2, s1.f⟩ (p2.mono ((SubK.left _ _ _).trans (SubK.up _ _))) (pay.mono (Nat.le_succ _))
 | ok di σD2 =>
  rw [e2] at po1'
  intro iv H2 lab2 s2 p2 r2
  have po2 := PostS.later po1' p2 ((SubK.left _ _ _).trans (SubK.up _ _)) (SubK.right _ _ _)
  dsimp only at po2
  have r1 := VR.pres p2 r1 rfl (by simp [keepL])
  obtain ⟨vr', hvr', r3⟩ := s2.get hr
  rw [hvr] at hvr'
  cases hvr'
  cases es : dSetIx (σD2.getD r .non) di d with
  | none => rw [es] at po2; exact po2.elim
  | some c =>
   rw [es] at po2
   cases ec : σD2.getD r .non with
   | lst ds =>
    rw [ec] at es r3
    cases di with
    | int j =>
     simp only [dSetIx, Option.map_eq_some_iff] at es
     obtain ⟨q, hq, rfl⟩ := es
     have ei := r2.int
     subst ei
     obtain ⟨a, vs, fp, rfl, hH, rl, na, nd, la, lf⟩ := r3.own_lst
     obtain ⟨fv, rv, ndv, lv⟩ := r1
     have dj : ∀ b ∈ fv, b ∉ fp := fun b hb z => by
      have := lf b z
      rw [lv b hb] at this
      cases this
     have nav : a ∉ fv := fun z => by
      have := lv a z
      rw [la] at this; cases this
     obtain ⟨f', ra, fb, fn⟩ := rl.set q rv nd ndv dj
     have na' : a ∉ f' := fun z => (fb a z).elim na nav
     refine ⟨a, vs, j, q, rfl, rfl, hH, by rw [rl.len]; exact hq, ?_⟩
     obtain ⟨s3, p3⟩ := s2.mut (fz := []) (f' := a :: f') (d' := .lst (ds.set q d)) (o := .lst (vs.set q v)) g0 hb hr hvr hH True.intro (.lst upd_same (ra.disj na' ⟨_, hH, True.intro⟩)) (by rw [List.append_nil]; exact List.nodup_cons.mpr ⟨na', fn⟩) (fun b hb' => by
      simp only [List.append_nil, List.mem_cons] at hb'
      rcases hb' with e | e | e
      · exact .inl (by rw [e]; exact la)
      · exact .inl (by rw [e]; exact la)
      · rcases fb b e with z | z
        · exact .inl (lf b z)
        · exact .inr ⟨n, Nat.le_refl _, lv b z⟩)
     exact po2 σ _ _ ⟨s3, s1.f⟩ p3
    | _ => cases es
   | _ => rw [ec] at es; cases es
def MutR (X : Cx) (rr : V → List V → Hp → VK → Prop) (f : D → List D → Option (D × D)) : Prop := ∀ d as c z, f d as = some (c, z) → ∀ (H : Hp) (v : V) (fp : List Addr) (vs : List V) (fa : List Addr), Rp X.K (clX X) H v d fp → fp.Nodup → RpL X.K (clX X) H vs as fa → fa.Nodup → (∀ b ∈ fa, b ∉ fp) →
 ∃ a u o zv f' fz, v = .ref a ∧ H a = some u ∧ isMut u ∧ a ∈ fp ∧ Rp X.K (clX X) (upd H a o) v c f' ∧ Rp X.K (clX X) (upd H a o) zv z fz ∧ (f' ++ fz).Nodup ∧ (∀ b ∈ f' ++ fz, b ∈ fp ∨ b ∈ fa) ∧ ∀ Q : VK, Q zv (upd H a o) → rr v vs H Q
def isTy (T : String) : D → Bool
 | .lst _ => T == "list"
 | .dK _ => T == "dict"
 | .dT _ => false
 | .str _ => T == "str"
 | _ => false
theorem Rp.ty {K : PySem.W.Frag} {cl : CE} {v : V} {d : D} {f : List Addr} {T : String} (h : Rp K cl H v d f) (e : isTy T d = true) : tyV K T v H := by
 cases h with
 | str x => exact beq_iff_eq.mp e
 | lst h r => exact .inl ⟨beq_iff_eq.mp e, _, .of h⟩
 | dK h k r => exact .inr (.inr (.inl ⟨beq_iff_eq.mp e, .inl ⟨_, h⟩⟩))
 | dT h ok hk k hv r => cases e
 | _ => cases e
def eMut (T : String) (r : Nat) (f : D → List D → Option (D × D)) (gs : List D → ER (List D)) : List D → ER D := fun σ => if isTy T (σ.getD r .non) = true then (gs σ).bind fun ds σ1 => match f (σ1.getD r .non) ds with
 | some (c, z) => .ok z (σ1.set r c)
 | none => .stuck
 else .stuck
theorem mut_fin {T : String} {rr : V → List V → Hp → VK → Prop} {f : D → List D → Option (D × D)} {ks : List AK} {Q : VK} (mo : MutR X rr f) (hr : Γ[r]? = some (some .own)) (hb : noBor Γ r = true) (ho : ks.all ownA = true) (g0 : gok Γ n = true) {ds : List D} {vs : List V} {v : V} (hv : σ[r]? = some (some v)) (s : SR X Γ σ H lab σD) (ar : AR X σ σD H lab n ks vs ds)
 (po : Post X W Γx Γ σ [r] n (relE X n .own) H lab Q (match f (σD.getD r .non) ds with
  | some (c, z) => .ok z (σD.set r c)
  | none => .stuck)) : rr v vs H Q := by
 obtain ⟨v', hv', fp, rp, nd, lf⟩ := s.get hr
 rw [hv] at hv'
 cases hv'
 obtain ⟨fa, ra, nda, lfa⟩ := ar.own ho
 cases e : f (σD.getD r .non) ds with
 | none => rw [e] at po; exact po.elim
 | some cz =>
  obtain ⟨c, z⟩ := cz
  rw [e] at po
  have dj : ∀ b ∈ fa, b ∉ fp := fun b hb' z => by
   obtain ⟨j, _, e⟩ := lfa b hb'
   rw [lf b z] at e; cases e
  obtain ⟨a, u, o, zv, f', fz, rfl, hu, mu, ha, rc, rz, ndc, hsub, hQ⟩ := mo _ _ _ _ e H v fp vs fa rp nd ra nda dj
  have hl : ∀ b ∈ a :: (f' ++ fz), lab b = .slt r ∨ ∃ j, n ≤ j ∧ lab b = .tmp j := fun b hb' => by
   rcases List.mem_cons.mp hb' with e | e
   · exact .inl (by rw [e]; exact lf a ha)
   · rcases hsub b e with z | z
     · exact .inl (lf b z)
     · exact .inr (lfa b z)
  obtain ⟨s3, p3⟩ := s.mut (f' := f') (fz := fz) g0 hb hr hv hu mu rc ndc hl
  refine hQ Q (po zv _ _ s3 p3 ⟨fz, rz, (List.nodup_append.mp ndc).2.1, fun b hb' => ?_⟩)
  unfold labMut
  rw [if_pos hb']
theorem ej_mut {T : String} {rr : V → List V → Hp → VK → Prop} {f : D → List D → Option (D × D)} {ks : List AK} {gs : List D → ER (List D)} {ce : Expr} (mo : MutR X rr f) (h : PE X ce (tBM X.K T rr (tVar r) (rdA X W Γx Γ n m ks gs))) (hr : Γ[r]? = some (some .own) := by rfl) (hb : noBor Γ r = true := by decide) (ho : ks.all ownA = true := by rfl) :
 EJ X W Γx Γ n (m ++ [r]) ce (eMut T r f gs) .own := by
 refine pe_imp h fun σ H Q hh => ?_
 obtain ⟨σD, lab, g0, s, po⟩ := hh
 obtain ⟨v, hv, fp, rp, nd, lf⟩ := s.get hr
 unfold eMut at po
 split at po
 · rename_i ht
   refine ⟨v, hv, rp.ty ht, σD, lab, g0, s, po.seq' fun ds σD1 vs H1 lab1 s1 p1 ar po1 => ?_⟩
   exact mut_fin (T := T) mo hr hb ho g0 hv s1 ar po1
 · exact po.elim
def sDrop (g : List D → ER D) : List D → SO := sOf g fun _ σ => .nxt σ
theorem sj_expr {e : Expr} {g : List D → ER D} {k : Kd} (h : EJ X W Z.Γx Γ n m e g k) (hs : swapsWith e none pos.line X.env = pure false := by rfl) : SJ X W Z Γ Γ n m (.Expr e pos) (sDrop g) := by
 refine ps_imp (ps_expr h hs) fun E σ H hh => ?_
 obtain ⟨σD, lab, fx, g0, s, po⟩ := hh
 exact sof_imp (m2 := []) (fun _ _ _ q => q) g0 s (by rw [List.append_nil]; exact po) fun d σD1 v H1 lab1 s1 p1 r1 (po1 : PostS X W Z fx Γ [] n H1 lab1 E (.nxt σD1)) => po1 σ H1 lab1 s1 (.refl _ _ _ _)
def mAppend : D → List D → Option (D × D)
 | .lst ds, [x] => if ds.length < sizeLine then some (.lst (ds ++ [x]), .non) else none
 | _, _ => none
def mClear : D → List D → Option (D × D)
 | .lst _, [] => some (.lst [], .non)
 | _, _ => none
def mExtend : D → List D → Option (D × D)
 | .lst ds, [.lst es] => if ds.length + es.length ≤ sizeLine then some (.lst (ds ++ es), .non) else none
 | _, _ => none
theorem mo_append : MutR X rAppend mAppend := by
 intro d as c z e H v fp vs fa hd nd ha nda dj
 unfold mAppend at e
 split at e
 · rename_i ds x
   split at e
   · rename_i hz
     cases e
     cases hd with
     | lst h r =>
      rename_i a ws f
      rw [List.nodup_cons] at nd
      obtain ⟨w, f1, rfl, rw1⟩ := ha.one_inv
      obtain ⟨w', ws', g1, g2, e1, e2, ra, rb⟩ := ha.cons_inv
      cases e1
      obtain ⟨_, e3⟩ := rb.nil_inv
      subst e3
      rw [List.append_nil] at e2
      subst e2
      have na : a ∉ f ++ fa := fun z => (List.mem_append.mp z).elim nd.1 fun q => dj a q List.mem_cons_self
      refine ⟨a, _, .lst (ws ++ [w]), .non, a :: (f ++ fa), [], rfl, h, True.intro, List.mem_cons_self, .lst upd_same ((r.append (RpL.one ra)).disj na ⟨_, h, True.intro⟩), .non, ?_, fun b hb => ?_, fun Q q => ⟨a, ws, w, rfl, rfl, h, by rw [r.len]; exact hz, q⟩⟩
      · rw [List.append_nil, List.nodup_cons, List.nodup_append]
        exact ⟨na, nd.2, nda, fun x hx y hy e => dj y hy (List.mem_cons_of_mem _ (e ▸ hx))⟩
      · rw [List.append_nil] at hb
        rcases List.mem_cons.mp hb with q | q
        · exact .inl (by rw [q]; exact List.mem_cons_self)
        · exact (List.mem_append.mp q).elim (fun q => .inl (List.mem_cons_of_mem _ q)) .inr
   · cases e
 · cases e
theorem mo_extend : MutR X rExtend mExtend := by
 intro d as c z e H v fp vs fa hd nd ha nda dj
 unfold mExtend at e
 split at e
 · rename_i ds es
   split at e
   · rename_i hz
     cases e
     cases hd with
     | lst h r =>
      rename_i a ws f
      obtain ⟨w', ws', g1, g2, e1, e2, ra, rb⟩ := ha.cons_inv
      obtain ⟨e3, e4⟩ := rb.nil_inv
      subst e1 e2 e3 e4
      cases ra with
      | lst h2 r2 =>
       rename_i b zs f2
       simp only [List.append_nil, List.nodup_cons] at nda dj
       rw [List.nodup_cons] at nd
       have na : a ∉ f ++ f2 := fun z => (List.mem_append.mp z).elim nd.1 fun q => dj a (List.mem_cons_of_mem _ q) List.mem_cons_self
       refine ⟨a, _, .lst (ws ++ zs), .non, a :: (f ++ f2), [], rfl, h, True.intro, List.mem_cons_self, .lst upd_same ((r.append r2).disj na ⟨_, h, True.intro⟩), .non, ?_, fun x hx => ?_, fun Q q => ⟨a, b, ws, zs, rfl, rfl, h, h2, by rw [r.len, r2.len]; exact hz, q⟩⟩
       · rw [List.append_nil, List.nodup_cons, List.nodup_append]
         exact ⟨na, nd.2, nda.2, fun x hx y hy e => dj y (List.mem_cons_of_mem _ hy) (List.mem_cons_of_mem _ (e ▸ hx))⟩
       · rw [List.append_nil] at hx
         rcases List.mem_cons.mp hx with q | q
         · exact .inl (by rw [q]; exact List.mem_cons_self)
         · exact (List.mem_append.mp q).elim (fun q => .inl (List.mem_cons_of_mem _ q)) (fun q => .inr (by simp [q]))
   · cases e
 · cases e
end
end Ow
namespace Ow
open PySem PySem.Spec PyProof.Rows L2
inductive Tg where
 | nm (i : Nat) | tp (is : List Nat)
def setMany : List Nat → List D → List D → Option (List D)
 | [], [], σ => some σ
 | i :: is, d :: ds, σ => setMany is ds (σ.set i d)
 | _, _, _ => none
def bindT : Tg → D → List D → Option (List D)
 | .nm i, d, σ => some (σ.set i d)
 | .tp is, .tup ds, σ => setMany is ds σ
 | _, _, _ => none
def Tg.slots : Tg → List Nat
 | .nm i => [i]
 | .tp is => is
def tgs : List Nat → TGs
 | [] => gNil
 | i :: is => gCons (gName i) (tgs is)
def tgR (K : PySem.W.Frag) : Tg → TG
 | .nm i => gName i
 | .tp is => gTup K is.length (tgs is)
def putsC : Ctx → List Nat → List Lab → Ctx
 | Γ, [], _ => Γ
 | Γ, i :: is, R => putsC (putC Γ i (.bor R)) is (dropL i R)
def tgC (Γ : Ctx) (T : Tg) (R : List Lab) : Ctx := putsC Γ T.slots R
section
variable {X : Cx} {W : WX} {Z : SC} {Γx Γ Γ' : Ctx} {n : Nat} {m m1 m2 : List Nat} {σ : St} {H : Hp} {lab : Labs} {σD : List D} {pos : Pos} {R : List Lab} {fx : Nat → V} {io : List Nat}
theorem dropL_ok {i n : Nat} {m : List Nat} (h : R.all (keepL m n) = true) : (dropL i R).all (keepL m n) = true := List.all_eq_true.mpr fun l hl => List.all_eq_true.mp h l (List.mem_filter.mp hl).1
theorem gok_put {i : Nat} {k : Kd} (g : gok Γ n = true) (ok : okK [] n k = true) : gok (putC Γ i k) n = true := by
 refine List.all_eq_true.mpr fun o ho => ?_
 obtain ⟨q, hq⟩ := List.mem_iff_getElem?.mp ho
 have subK : ∀ k : Kd, okK [] n k = true → okK [] n (dropK i k) = true := fun k hk => by
  cases k with
  | own => rfl
  | bor R => exact dropL_ok hk
  | spn R => exact dropL_ok hk
  | exc R => exact dropL_ok hk
 unfold putC at hq
 by_cases z : q = i
 · subst z
   have hl : q < (Γ.map fun o => o.map (dropK q)).length := by
    have := (List.getElem?_eq_some_iff.mp hq).1
    rwa [List.length_set] at this
   rw [List.getElem?_set_self hl] at hq
   cases hq
   exact subK _ ok
 · rw [List.getElem?_set_ne (Ne.symm z), List.getElem?_map] at hq
   cases e2 : Γ[q]? with
   | none => rw [e2] at hq; cases hq
   | some o' =>
    rw [e2] at hq
    cases o' with
    | none => cases hq; rfl
    | some k0 => cases hq; exact subK _ (gok.at_ g e2)
theorem VR.bor_put {K : PySem.W.Frag} {cl : CE} {i n : Nat} {v : V} {d : D} {t t' : Lab} (h : VR K cl H lab (.bor R) t v d) (ok : R.all (keepL [] n) = true) : VR K cl H (labPut i n lab) (.bor (dropL i R)) t' v d := by
 obtain ⟨fp, r, l⟩ := h
 exact ⟨fp, r, fun a ha => bw_put (l a ha) ok⟩
theorem SRx.put {i : Nat} {k : Kd} {v : V} {d : D} (s : SRx X io fx Γ σ H lab σD) (g : gok Γ n = true) (hi : i < X.N.length) (hio : i ∉ io) (h : VR X.K (clX X) H lab k (.tmp n) v d) (ok : okK [] n k = true) : SRx X io fx (putC Γ i k) (σ.set i (some v)) H (labPut i n lab) (σD.set i d) :=
 ⟨s.s.put g hi h ok, fun j hj => by
  rw [List.getElem?_set_ne]
  · exact s.f j hj
  · rintro rfl; exact hio hj⟩
theorem puts_ok : ∀ (is : List Nat) {vs : List V} {ds : List D} {Γ : Ctx} {σ : St} {lab : Labs} {σD σD' : List D} {R : List Lab} {Q : St → Hp → Prop}, SRx X io fx Γ σ H lab σD → gok Γ n = true → R.all (keepL [] n) = true → (∀ i ∈ is, i < X.N.length ∧ i ∉ io) → vs.length = ds.length →
 (∀ (j : Nat) v d, vs[j]? = some v → ds[j]? = some d → VR X.K (clX X) H lab (.bor R) (.tmp n) v d) → setMany is ds σD = some σD' →
 (∀ σ' lab', SRx X io fx (putsC Γ is R) σ' H lab' σD' → gok (putsC Γ is R) n = true → Pres is n H lab H lab' → Q σ' H) → tgs is vs σ H Q
 | [], vs, ds, Γ, σ, lab, σD, σD', R, Q, s, g, ok, hi, hl, hv, e, k => by
  cases ds with
  | nil =>
   cases vs with
   | nil => cases e; exact ⟨rfl, k σ lab s g (.refl _ _ _ _)⟩
   | cons v vs => cases hl
  | cons d ds => cases e
 | i :: is, vs, ds, Γ, σ, lab, σD, σD', R, Q, s, g, ok, hi, hl, hv, e, k => by
  cases ds with
  | nil => cases e
  | cons d ds =>
   cases vs with
   | nil => cases hl
   | cons v vs =>
    have r0 := hv 0 v d rfl rfl
    obtain ⟨h1, h2⟩ := hi i List.mem_cons_self
    refine ⟨v, vs, rfl, puts_ok is (R := dropL i R) (s.put g h1 h2 r0 ok) (gok_put g ok) (dropL_ok ok) (fun j hj => hi j (List.mem_cons_of_mem _ hj)) (by simpa using hl) (fun j w x a b => ?_) e fun σ' lab' s' g' p => ?_⟩
    · exact (hv (j + 1) w x (by simpa using a) (by simpa using b)).bor_put ok
    · refine k σ' lab' s' g' (Pres.trans (m1 := [i]) (n1 := n) (m2 := is) (n2 := n) .put p (.of (fun q hq => by simp at hq; simp [hq]) (Nat.le_refl _)) (.of (fun q hq => List.mem_cons_of_mem _ hq) (Nat.le_refl _)))
theorem tg_ok {T : Tg} {v : V} {d : D} {σD' : List D} {Q : St → Hp → Prop} (s : SRx X io fx Γ σ H lab σD) (g : gok Γ n = true) (ok : R.all (keepL [] n) = true) (hi : ∀ i ∈ T.slots, i < X.N.length ∧ i ∉ io) (r : VR X.K (clX X) H lab (.bor R) (.tmp n) v d) (e : bindT T d σD = some σD')
 (k : ∀ σ' lab', SRx X io fx (tgC Γ T R) σ' H lab' σD' → gok (tgC Γ T R) n = true → Pres T.slots n H lab H lab' → Q σ' H) : tgR X.K T v σ H Q := by
 cases T with
 | nm i =>
  cases e
  obtain ⟨h1, h2⟩ := hi i List.mem_cons_self
  exact k _ _ (s.put g h1 h2 r ok) (gok_put g ok) .put
 | tp is =>
  cases d with
  | tup ds =>
   obtain ⟨fp, rp, l⟩ := r
   cases rp with
   | tup h rl =>
    rename_i a vs
    have hlen : ∀ (is : List Nat) (ds σ0 σ1 : List D), setMany is ds σ0 = some σ1 → ds.length = is.length := by
     intro is
     induction is with
     | nil => intro ds σ0 σ1 e; cases ds with | nil => rfl | cons _ _ => cases e
     | cons i is ih => intro ds σ0 σ1 e; cases ds with | nil => cases e | cons d ds => simp [ih ds _ _ e]
    refine ⟨a, vs, rfl, h, by rw [rl.len, hlen is ds _ _ e], puts_ok is s g ok hi rl.len (fun j v x a b => ?_) e k⟩
    obtain ⟨w, f, e1, e2, e3⟩ := rl.get b
    rw [a] at e1
    cases e1
    exact ⟨f, e2, fun y hy => l y (e3.subset hy)⟩
  | _ => cases e
def IterOk (X : Cx) (n : Nat) (R : List Lab) (J : It) (ds : List D) (H : Hp) (lab : Labs) : Prop := ∀ m' H' lab', Pres m' (n + 1) H lab H' lab' → R.all (keepL m' (n + 1)) = true → ∀ i : Nat, i ≤ ds.length →
 (i = ds.length → J.stop i H') ∧ ∀ d, ds[i]? = some d → J.go i H' ∧ ∀ x H'', J.yld i H' x H'' → ∃ lab'', (∀ m'' n'', Pres m'' n'' H' lab' H'' lab'') ∧ VR X.K (clX X) H'' lab'' (.bor R) (.tmp (n + 1)) x d
abbrev relI (X : Cx) (n : Nat) (R : List Lab) : Rel It (List D) := fun _ H lab J ds => IterOk X n R J ds H lab
def rdI (X : Cx) (W : WX) (Γx Γ : Ctx) (n : Nat) (m : List Nat) (R : List Lab) (g : List D → ER (List D)) : TI := fun σ H Q => ∃ σD lab, gok Γ n = true ∧ SR X Γ σ H lab σD ∧ Post X W Γx Γ σ m n (relI X n R) H lab Q (g σD)
abbrev IJ (X : Cx) (W : WX) (Γx Γ : Ctx) (n : Nat) (m : List Nat) (tg e : Expr) (g : List D → ER (List D)) (R : List Lab) : Prop := PI X tg e (rdI X W Γx Γ n m R g)
theorem pi_imp {X : Cx} {tg e : Expr} {t u : TI} (h : PI X tg e t) (i : ∀ σ H Q, u σ H Q → t σ H Q) : PI X tg e u := ⟨fun pins s σ H Q I q => h.run pins s σ H Q I (i σ H Q q)⟩
def iterR (t : Lab) : Kd → List Lab
 | .own => [t]
 | .bor R => R
 | .spn R => R
 | .exc R => R
theorem VR.elems {K : PySem.W.Frag} {cl : CE} {k : Kd} {t t' : Lab} {v : V} {d : D} {ds : List D} (h : VR K cl H lab k t v d) (e : d = .lst ds ∨ d = .fzl ds) : ∃ a vs, v = .ref a ∧ SqL K H a vs ∧ vs.length = ds.length ∧ ∀ (i : Nat) x, ds[i]? = some x → ∃ w, vs[i]? = some w ∧ VR K cl H lab (.bor (iterR t k)) t' w x := by
 have key : ∀ {vs : List V} {fp fp' : List Addr} {R : List Lab}, RpL K cl H vs ds fp' → (∀ a ∈ fp', a ∈ fp) → (∀ a ∈ fp, bw R (lab a)) → ∀ (i : Nat) x, ds[i]? = some x → ∃ w, vs[i]? = some w ∧ VR K cl H lab (.bor R) t' w x := fun rr sb l i x hx => by
  obtain ⟨w, f, a, b, c⟩ := rr.get hx
  exact ⟨w, a, f, b, fun y hy => l y (sb y (c.subset hy))⟩
 cases k with
 | own =>
  obtain ⟨fp, r, nd, l⟩ := h
  have l' : ∀ a ∈ fp, bw [t] (lab a) := fun a ha => .inr (by rw [l a ha]; exact List.mem_cons_self)
  rcases e with rfl | rfl
  · cases r with
    | lst h r => exact ⟨_, _, rfl, .of h, r.len, key r (fun a ha => List.mem_cons_of_mem _ ha) l'⟩
  · cases r with
    | lsf h r => exact ⟨_, _, rfl, h.sql, r.len, key r (fun a ha => ha) l'⟩
 | bor R =>
  obtain ⟨fp, r, l⟩ := h
  rcases e with rfl | rfl
  · cases r with
    | lst h r => exact ⟨_, _, rfl, .of h, r.len, key r (fun a ha => List.mem_cons_of_mem _ ha) l⟩
  · cases r with
    | lsf h r => exact ⟨_, _, rfl, h.sql, r.len, key r (fun a ha => ha) l⟩
 | spn R =>
  obtain ⟨a, vs, ds', fp, rfl, rfl, ha, r, la, l⟩ := h
  rcases e with e | e
  · cases e
    exact ⟨a, vs, rfl, .of ha, r.len, key r (fun a ha => ha) fun b hb => (l b hb).2⟩
  · cases e
 | exc R =>
  obtain ⟨fp, r, _⟩ := h
  cases r <;> rcases e with e | e <;> cases e
theorem okK_iter {k : Kd} {m : List Nat} (h : (iterR (.tmp n) k).all (keepL m (n + 1)) = true) : okK m (n + 1) k = true := by
 cases k with
 | own => rfl
 | bor R => exact h
 | spn R => exact h
 | exc R => exact h
def gList (g : List D → ER D) : List D → ER (List D) := fun σ => (g σ).bind fun d σ1 => match d with
 | .lst ds => .ok ds σ1
 | .fzl ds => .ok ds σ1
 | _ => .stuck
def gTupl (g : List D → ER D) : List D → ER (List D) := fun σ => (g σ).bind fun d σ1 => match d with
 | .tup ds => .ok ds σ1
 | _ => .stuck
theorem iter_list {k : Kd} {v : V} {d : D} {ds : List D} (r : VR X.K (clX X) H lab k (.tmp n) v d) (e : d = .lst ds ∨ d = .fzl ds) : ∃ a, v = .ref a ∧ (∃ xs, SqL X.K H a xs) ∧ IterOk X n (iterR (.tmp n) k) (Itl X.K a) ds H lab := by
 obtain ⟨a, vs, rfl, hs, _⟩ := r.elems (t' := .tmp n) e
 refine ⟨a, rfl, ⟨vs, hs⟩, fun m' H' lab' p ok i hi => ?_⟩
 obtain ⟨a', vs', ea, hs', hl, hv⟩ := (r.pres p (okK_iter ok) (by simp [keepL])).elems (t' := .tmp (n + 1)) e
 cases ea
 refine ⟨fun ei => ⟨vs', hs', by omega⟩, fun x hx => ?_⟩
 obtain ⟨w, hw, hr⟩ := hv i x hx
 refine ⟨⟨vs', w, hs', hw⟩, fun y H'' hy => ?_⟩
 obtain ⟨rfl, hy⟩ := hy
 have := hy vs' hs'
 rw [hw] at this
 cases this
 exact ⟨lab', fun _ _ => .refl _ _ _ _, hr⟩
theorem ij_list {tg e : Expr} {g : List D → ER D} {k : Kd} (h : EJ X W Γx Γ n m e g k) : IJ X W Γx Γ n m tg e (gList g) (iterR (.tmp n) k) := by
 refine pi_imp (pi_list h) fun σ H Q hh => ?_
 obtain ⟨σD, lab, g0, s, po⟩ := hh
 refine ⟨σD, lab, g0, s, po.last fun d σD1 v H1 lab1 s1 p1 r1 po1 => ?_⟩
 cases d with
 | lst ds =>
  obtain ⟨a, ea, hx, hi⟩ := iter_list r1 (.inl rfl)
  exact ⟨a, ea, hx, po1 _ H1 lab1 s1 (.refl _ _ _ _) hi⟩
 | fzl ds =>
  obtain ⟨a, ea, hx, hi⟩ := iter_list r1 (.inr rfl)
  exact ⟨a, ea, hx, po1 _ H1 lab1 s1 (.refl _ _ _ _) hi⟩
 | _ => exact po1.elim
def rngD (lo : Int) (n : Nat) : List D := (List.range n).map fun (i : Nat) => D.int (lo + (i : Int))
def gRng : List D → Option (List D)
 | [.int j] => if -(2 ^ 62) ≤ j ∧ j < 2 ^ 62 then some (rngD 0 j.toNat) else none
 | [.int i, .int j] => if -(2 ^ 62) ≤ i ∧ i < 2 ^ 62 ∧ -(2 ^ 62) ≤ j ∧ j < 2 ^ 62 then some (rngD i (j - i).toNat) else none
 | _ => none
def gRange (gs : List D → ER (List D)) : List D → ER (List D) := fun σ => (gs σ).bind fun ds σ1 => ofO (gRng ds) σ1
theorem iter_range {lo : Int} {q : Nat} : IterOk X n [] (Itr lo q) (rngD lo q) H lab := fun m' H' lab' p ok i hi => by
 have hl : (rngD lo q).length = q := by simp [rngD]
 refine ⟨fun e => Nat.le_of_eq (by rw [e, hl]), fun d hd => ?_⟩
 unfold rngD at hd
 rw [List.getElem?_map] at hd
 have hi' : i < q := by
  cases z : (List.range q)[i]? with
  | none => rw [z] at hd; cases hd
  | some j => simpa using (List.getElem?_eq_some_iff.mp z).1
 rw [List.getElem?_range hi'] at hd
 cases hd
 refine ⟨hi', fun x H'' hy => ?_⟩
 obtain ⟨rfl, rfl⟩ := hy
 exact ⟨lab', fun _ _ => .refl _ _ _ _, [], .int _, by simp⟩
theorem range1_imp {e : Expr} {gs : List D → ER (List D)} {k : Kd} (σ : St) (H : Hp) (Q : It → Hp → Prop) (hh : rdI X W Γx Γ n m [] (gRange gs) σ H Q) : iRng1 (rdA X W Γx Γ n m [.val k] gs) σ H Q := by
 obtain ⟨σD, lab, g0, s, po⟩ := hh
 refine ⟨σD, lab, g0, s, po.last fun ds σD1 vs H1 lab1 s1 p1 r1 po1 => ?_⟩
 obtain ⟨z, e, q⟩ := po1.done
 obtain ⟨v, vs', d, ds', e1, e2, r, e3, e4⟩ := r1
 subst e1 e2 e3 e4
 cases d with
 | int j =>
  simp only [gRng] at e
  split at e
  · rename_i hb
    cases e
    have ev := r.int
    subst ev
    exact ⟨j, rfl, hb.1, hb.2, q _ H1 lab1 s1 (.refl _ _ _ _) iter_range⟩
  · cases e
 | _ => cases e
theorem ij_range1 {tg a : Expr} {gs : List D → ER (List D)} {k : Kd} {p : Pos} (hm : X.mg "range" = none) (ha : AJ X W Γx Γ n m [a] gs [.val k]) (hg : Gl X "range" := by rfl) (hs : starEach [a] X.env = [(false, eval a X.env)] := by rfl) : IJ X W Γx Γ n m tg (.Call (.Name "range" p) [a] [] pos) (gRange gs) [] :=
 pi_imp (pi_range1 hg hm ha hs) fun σ H Q hh => range1_imp (e := a) σ H Q hh
theorem ij_range2 {tg a b : Expr} {gs : List D → ER (List D)} {k k1 : Kd} {p : Pos} (hm : X.mg "range" = none) (ha : AJ X W Γx Γ n m [a, b] gs [.val k, .val k1]) (hg : Gl X "range" := by rfl) (hs : starEach [a, b] X.env = [(false, eval a X.env), (false, eval b X.env)] := by rfl) (hs2 : starEach [b] X.env = [(false, eval b X.env)] := by rfl) : IJ X W Γx Γ n m tg (.Call (.Name "range" p) [a, b] [] pos) (gRange gs) [] := by
 refine pi_imp (pi_range2 hg hm ha hs hs2) fun σ H Q hh => ?_
 obtain ⟨σD, lab, g0, s, po⟩ := hh
 refine ⟨σD, lab, g0, s, po.last fun ds σD1 vs H1 lab1 s1 p1 r1 po1 => ?_⟩
 obtain ⟨z, e, q⟩ := po1.done
 obtain ⟨v, vs', d, ds', e1, e2, r, v2, vs2, d2, ds2, e3, e4, r2, e5, e6⟩ := r1
 subst e1 e2 e3 e4 e5 e6
 cases d with
 | int i => cases d2 with
  | int j =>
   simp only [gRng] at e
   split at e
   · rename_i hb
     cases e
     have ev := r.int
     have ev2 := r2.int
     subst ev ev2
     exact ⟨i, j, rfl, hb, q _ H1 lab1 s1 (.refl _ _ _ _) iter_range⟩
   · cases e
  | _ => cases e
 | _ => cases d2 <;> cases e
def forL (T : Tg) (G : List D → SO) : List D → List D → SO
 | [], σ => .nxt σ
 | d :: ds, σ => match bindT T d σ with
  | none => .stuck
  | some σ1 => match G σ1 with
   | .nxt σ2 => forL T G ds σ2
   | .cnt σ2 => forL T G ds σ2
   | .brk σ2 => .nxt σ2
   | r => r
def sFor (T : Tg) (gi : List D → ER (List D)) (G : List D → SO) : List D → SO := fun σ => match gi σ with
 | .stuck => .stuck
 | .exc c p σ1 => .exc c p σ1
 | .ok ds σ1 => forL T G ds σ1
def tgOk (T : Tg) (nl : Nat) (io : List Nat) : Bool := T.slots.all fun i => decide (i < nl) && !io.contains i
theorem for_imp {gi : List D → ER (List D)} {G : List D → SO} {T : Tg} (hle : leC Γ' Γ = true) (hR : R.all (keepL (T.slots ++ m2) (n + 1)) = true) (ht : tgOk T X.N.length Z.io = true) (E : Ends) (σ : St) (H : Hp) (h : rdS X W Z Γ Γ n (m1 ++ (T.slots ++ m2)) (sFor T gi G) E σ H) :
 tFor (rdI X W Z.Γx Γ n m1 R gi) (tgR X.K T) (rdS X W { Z with Γb := Γ } (tgC Γ T R) Γ' (n + 1) m2 G) E σ H := by
 obtain ⟨σD, lab, fx, g0, s, po⟩ := h
 refine ⟨σD, lab, g0, s.s, ?_⟩
 unfold sFor at po
 cases e : gi σD with
 | stuck => rw [e] at po; exact po
 | exc cn py σ1 =>
  rw [e] at po
  intro H1 lab1 C dd hcn s1 p1 pay
  exact po σ H1 lab1 C dd hcn ⟨s1, s.f⟩ (p1.mono (SubK.left _ _ _)) pay
 | ok ds σ1 =>
  rw [e] at po
  intro J H1 lab1 s1 p1 it
  have po1 := PostS.later po p1 (SubK.left _ _ _) (SubK.right _ _ _)
  have it : IterOk X n R J ds H1 lab1 := it
  have hts : ∀ i ∈ T.slots, i < X.N.length ∧ i ∉ Z.io := fun i hi => by
   have := List.all_eq_true.mp ht i hi
   simpa using this
  have hR0 : R.all (keepL [] (n + 1)) = true := List.all_eq_true.mpr fun l hl => by
   have := List.all_eq_true.mp hR l hl
   cases l <;> simp_all [keepL]
  refine ⟨fun i k σ H => k = ds.length - i ∧ i ≤ ds.length ∧ ∃ σD lab, SRx X Z.io fx Γ σ H lab σD ∧ Pres (T.slots ++ m2) (n + 1) H1 lab1 H lab ∧ PostS X W Z fx Γ (T.slots ++ m2) n H lab E (forL T G (ds.drop i) σD),
   ⟨ds.length, by simp, Nat.zero_le _, σ1, lab1, ⟨s1, s.f⟩, .refl _ _ _ _, by rw [List.drop_zero]; exact po1⟩, ?_⟩
  rintro i k σ H ⟨rfl, hi, σD, lab, s, p, po⟩
  obtain ⟨hstop, hgo⟩ := it _ H lab p hR i hi
  by_cases hlt : i < ds.length
  · obtain ⟨go, hy⟩ := hgo ds[i] (List.getElem?_eq_getElem hlt)
    refine .inr ⟨go, fun σ' H' => ∃ σD' lab', SRx X Z.io fx Γ σ' H' lab' σD' ∧ Pres (T.slots ++ m2) (n + 1) H1 lab1 H' lab' ∧ PostS X W Z fx Γ (T.slots ++ m2) n H' lab' E (forL T G (ds.drop (i + 1)) σD'), fun σ' H' q => ⟨ds.length - (i + 1), by omega, rfl, hlt, q⟩, fun x H'' hx => ?_⟩
    obtain ⟨lab2, p2, r2⟩ := hy x H'' hx
    rw [List.drop_eq_getElem_cons hlt, forL] at po
    have s2 : SRx X Z.io fx Γ σ H'' lab2 σD := ⟨s.s.pres (gok.up g0) (p2 _ _), s.f⟩
    have po2 := PostS.later po (p2 (T.slots ++ m2) n) (SubK.refl _ _) (SubK.refl _ _)
    have p3 : Pres (T.slots ++ m2) (n + 1) H1 lab1 H'' lab2 := p.trans (p2 _ _) (SubK.refl _ _) (SubK.refl _ _)
    cases eb : bindT T ds[i] σD with
    | none => rw [eb] at po2; exact po2.elim
    | some σD2 =>
     rw [eb] at po2
     dsimp only at po2
     refine tg_ok s2 (gok.up g0) hR0 hts r2 eb fun σ3 lab3 s3 g3 p4 => ?_
     have p5 : Pres (T.slots ++ m2) (n + 1) H1 lab1 H'' lab3 := p3.trans (p4.mono (SubK.left _ _ _)) (SubK.refl _ _) (SubK.refl _ _)
     have po3 := PostS.later po2 (p4.mono (m := T.slots ++ m2) (n := n + 1) (SubK.left _ _ _)) (SubK.up _ _) (SubK.refl _ _)
     refine ⟨σD2, lab3, fx, g3, s3, ?_⟩
     have up2 : SubK (T.slots ++ m2) n m2 (n + 1) := (SubK.right _ _ _).trans (SubK.up _ _)
     cases eg : G σD2 with
     | stuck => rw [eg] at po3; exact po3
     | nxt σ5 =>
      rw [eg] at po3
      exact fun σ' H' lab' s' p' => ⟨σ5, lab', ⟨s'.s.weak hle, s'.f⟩, p5.trans (p'.mono (SubK.right _ _ _)) (SubK.refl _ _) (SubK.refl _ _), PostS.later po3 p' up2 (SubK.refl _ _)⟩
     | cnt σ5 =>
      rw [eg] at po3
      exact fun σ' H' lab' s' p' => ⟨σ5, lab', s', p5.trans (p'.mono (SubK.right _ _ _)) (SubK.refl _ _) (SubK.refl _ _), PostS.later po3 p' up2 (SubK.refl _ _)⟩
     | brk σ5 => rw [eg] at po3; exact fun σ' H' lab' s' p' => po3 σ' H' lab' s' (p'.mono up2)
     | ret d σ5 => rw [eg] at po3; exact po3
     | exc cn py σ5 => rw [eg] at po3; exact fun σ' H' lab' C dd hcn s' p' pay => po3 σ' H' lab' C dd hcn s' (p'.mono up2) (pay.mono (Nat.le_succ _))
  · have ei : i = ds.length := by omega
    refine .inl ⟨hstop ei, ?_⟩
    rw [ei, List.drop_length] at po
    exact po σ H lab s (.refl _ _ _ _)
theorem sj_for {tg iter : Expr} {body : List Stmt} {gi : List D → ER (List D)} {G : List D → SO} {T : Tg} (hp : PassesOwn (model X.prog X.w) X.A X.env X.xe) (hc : X.calm = true) (hi : IJ X W Z.Γx Γ n m1 tg iter gi R) (hg : PG X tg (tgR X.K T))
 (hb : BJ X W { Z with Γb := Γ } (tgC Γ T R) Γ' (n + 1) m2 body G) (hle : leC Γ' Γ = true := by decide) (hR : R.all (keepL (T.slots ++ m2) (n + 1)) = true := by decide) (ht : tgOk T X.N.length Z.io = true := by rfl)
 (hs : ∀ x, foldedSetIterable iter X.env x = pure x := by intro _; rfl) : SJ X W Z Γ Γ n (m1 ++ (T.slots ++ m2)) (.For tg iter body [] pos) (sFor T gi G) :=
 ps_imp (ps_for hp hc hi hg hb hs) fun E σ H h => for_imp hle hR ht E σ H h
end
end Ow
namespace Ow
open PySem PySem.Spec PyProof.Rows L2
def sRaise (c : Str) : List D → SO := fun σ => .exc c .non σ
section
variable {X : Cx} {W : WX} {Z : SC} {Γx Γ Γ' Γ1 Γ2 Γt : Ctx} {n : Nat} {m m1 m2 : List Nat} {pos : Pos}
theorem sj_raise {c : Str} {C : Addr} {e : Expr} (hc : X.calm = true) (tk : L2N.Takes X W) (mk : L2N.PMk X e (fun _ H Q => Q (.ref C) none H)) (gC : X.mg c = some (.ref C)) (hp : pfOf c = none := by decide) (l : leC Γ Z.Γx = true := by decide) :
 SJ X W Z Γ Γ' n [] (.Raise (some e) none pos) (sRaise c) := ps_imp (L2N.ps_raise hc tk mk) fun E σ H h => by
 obtain ⟨σD, lab, fx, g0, s, po⟩ := h
 refine po σ H lab C none gC ⟨s.s.weak l, s.f⟩ (.refl _ _ _ _) ?_
 unfold PayOk
 rw [hp]
 exact ⟨rfl, rfl⟩
end
def noX (Γ : Ctx) : Bool := Γ.all fun o => match o with
 | some (.exc _) => false
 | _ => true
structure Like (X X' : Cx) : Prop where
 N : X'.N = X.N
 K : X'.K = X.K
 mg : X'.mg = X.mg
theorem Like.symm {X X' : Cx} (l : Like X X') : Like X' X := ⟨l.N.symm, l.K.symm, l.mg.symm⟩
theorem VR.cn {K : PySem.W.Frag} {cl cl' : CE} {H : Hp} {lab : Labs} {k : Kd} {t : Lab} {v : V} {d : D} (h : VR K cl H lab k t v d) (h1 : ∀ c C, cl.cl c C → cl'.cl c C) (hk : ∀ R, k ≠ .exc R) : VR K cl' H lab k t v d := by
 cases k with
 | own => obtain ⟨fp, r, q⟩ := h; exact ⟨fp, r.ce h1, q⟩
 | bor R => obtain ⟨fp, r, q⟩ := h; exact ⟨fp, r.ce h1, q⟩
 | spn R => obtain ⟨a, vs, ds, fp, e1, e2, ha, r, q⟩ := h; exact ⟨a, vs, ds, fp, e1, e2, ha, r.ce h1, q⟩
 | exc R => exact absurd rfl (hk R)
theorem Like.vr {X X' : Cx} (l : Like X X') {H : Hp} {lab : Labs} {k : Kd} {t : Lab} {v : V} {d : D} (h : VR X.K (clX X) H lab k t v d) (hk : ∀ R, k ≠ .exc R) : VR X'.K (clX X') H lab k t v d := by
 rw [l.K]
 exact h.cn (fun c C e => by show X'.mg c = _; rw [l.mg]; exact e) hk
theorem Like.tb {X X' : Cx} (l : Like X X') {H : Hp} {lab : Labs} (t : TbOk X.K (clX X) H lab) : TbOk X'.K (clX X') H lab := by
 rw [l.K]
 refine t.ce fun f h => ?_
 have h : X'.mg lamD = some (.ref f) := h
 rw [l.mg] at h
 exact h
theorem SR.like {X X' : Cx} (l : Like X X') {Γ : Ctx} (hn : noX Γ = true) {σ : St} {H : Hp} {lab : Labs} {σD : List D} (s : SR X Γ σ H lab σD) : SR X' Γ σ H lab σD :=
 ⟨by rw [l.N]; exact s.l1, by rw [l.N]; exact s.l2, (fun i k e => by
  obtain ⟨v, d, a, b, c⟩ := s.at_ i k e
  refine ⟨v, d, a, b, l.vr c fun R z => ?_⟩
  have := List.all_eq_true.mp hn _ (List.mem_of_getElem? e)
  rw [z] at this
  cases this), l.tb s.tb⟩
theorem SRx.like {X X' : Cx} (l : Like X X') {Γ : Ctx} (hn : noX Γ = true) {io : List Nat} {fx : Nat → V} {σ : St} {H : Hp} {lab : Labs} {σD : List D} (s : SRx X io fx Γ σ H lab σD) : SRx X' io fx Γ σ H lab σD := ⟨s.s.like l hn, s.f⟩
theorem PayOk.like {X X' : Cx} (l : Like X X') {H : Hp} {lab : Labs} {n : Nat} {c : Str} {p : D} {dd : Option Addr} (h : PayOk X H lab n c p dd) : PayOk X' H lab n c p dd := by
 unfold PayOk at h ⊢
 split at h
 · exact h
 · obtain ⟨d, v, j, a, b, e1, e2, e3⟩ := h
   exact ⟨d, v, j, a, b, e1, e2, l.vr e3 fun R z => by cases z⟩
def SO.noExc : SO → SO
 | .exc _ _ _ => .stuck
 | r => r
def sTry (G : List D → SO) (hit : Str → Option Bool) (i : Nat) (Gs : List D → SO) : List D → SO := fun σ => match G σ with
 | .exc c p σ1 => (match hit c with
  | none => .stuck
  | some true => (Gs (σ1.set i (.exn c p))).noExc
  | some false => .exc c p σ1)
 | r => r
def excC (Γ : Ctx) (i : Nat) : Ctx := (Γ.map fun o => o.map (dropK i)).set i (some (.exc [.out, .slt i]))
def labExc (i n : Nat) (lab : Labs) : Labs := fun a => match lab a with
 | .slt j => if j = i then .fro else .slt j
 | .tmp j => if n ≤ j then .slt i else .tmp j
 | l => l
def deadAt (Γ : Ctx) (i : Nat) : Bool := match Γ[i]? with
 | some (some _) => false
 | _ => true
section
variable {X : Cx} {W : WX} {Z : SC} {Γx Γ Γ' Γ1 Γ2 Γt : Ctx} {n i : Nat} {m m1 m2 : List Nat} {pos pos' np : Pos} {H : Hp} {lab : Labs} {σ : St} {σD : List D}
theorem Pres.exc : Pres [i] n H lab H (labExc i n lab) := .relab (fun a h => by
 unfold labExc
 split
 · rename_i j e
   rw [e] at h
   rw [if_neg (by rintro rfl; simp [keepL] at h), e]
 · rename_i j e
   rw [e] at h
   simp only [keepL, decide_eq_true_eq] at h
   rw [if_neg (by omega), e]
 · rfl) fun a h => by
 unfold labExc at h ⊢
 split
 · rename_i j e
   rw [e] at h
   dsimp only at h
   split at h <;> cases h
 · rename_i j e
   rw [e] at h
   dsimp only at h
   split at h <;> cases h
 · rfl
theorem bw_exc {R : List Lab} {l : Lab} {lab : Labs} {a : Addr} (e : lab a = l) (b : bw R l) (h : R.all (keepL [] n) = true) : bw (dropL i R) (labExc i n lab a) := by
 unfold labExc
 rw [e]
 rcases b with e2 | b
 · subst e2; exact .inl rfl
 · have z := List.all_eq_true.mp h l b
   cases l with
   | slt j =>
    dsimp only
    by_cases q : j = i
    · rw [if_pos q]; exact .inl rfl
    · rw [if_neg q]
      exact .inr (List.mem_filter.mpr ⟨b, decide_eq_true (by intro z; cases z; exact q rfl)⟩)
   | tmp j =>
    simp only [keepL, decide_eq_true_eq] at z
    dsimp only
    rw [if_neg (by omega)]
    exact .inr (List.mem_filter.mpr ⟨b, decide_eq_true (by intro z; cases z)⟩)
   | out => exact .inr (List.mem_filter.mpr ⟨b, decide_eq_true (by intro z; cases z)⟩)
   | prm => exact .inr (List.mem_filter.mpr ⟨b, decide_eq_true (by intro z; cases z)⟩)
   | fro => exact .inl rfl
theorem VR.exc_other {K : PySem.W.Frag} {cl : CE} {j : Nat} {k : Kd} {v : V} {d : D} (h : VR K cl H lab k (.slt j) v d) (ne : j ≠ i) (ok : okK [] n k = true) : VR K cl H (labExc i n lab) (dropK i k) (.slt j) v d := by
 have lj : ∀ {a : Addr}, lab a = .slt j → labExc i n lab a = .slt j := fun {a} e => by
  unfold labExc
  rw [e]
  dsimp only
  rw [if_neg ne]
 cases k with
 | own =>
  obtain ⟨fp, r, nd, l⟩ := h
  exact ⟨fp, r, nd, fun a ha => lj (l a ha)⟩
 | bor R =>
  obtain ⟨fp, r, l⟩ := h
  exact ⟨fp, r, fun a ha => bw_exc rfl (l a ha) ok⟩
 | spn R =>
  obtain ⟨p, vs, ds, fp, e1, e2, hp, r, lp, l⟩ := h
  exact ⟨p, vs, ds, fp, e1, e2, hp, r, lj lp, fun b hb => ⟨(l b hb).1, bw_exc rfl (l b hb).2 ok⟩⟩
 | exc R =>
  obtain ⟨fp, r, l, u⟩ := h
  refine ⟨fp, r, fun a ha => bw_exc rfl (l a ha) ok, fun z => ?_⟩
  have z := (List.mem_filter.mp z).1
  obtain ⟨u1, u2, u3⟩ := u z
  exact ⟨List.mem_filter.mpr ⟨u1, decide_eq_true (fun e => ne (Lab.slt.inj e))⟩, u2, fun a ha => lj (u3 a ha)⟩
theorem dropX {R : List Lab} {k : Kd} (h : dropK i k = .exc R) : ∃ R', k = .exc R' := by
 cases k with
 | exc R' => exact ⟨R', rfl⟩
 | _ => cases h
theorem SR.excd {a : Addr} {oe : Obj} {pn : List (Addr × Obj)} {c : Str} {C : Addr} {p : D} {dd : Option Addr} (s : SR X Γt σ H lab σD) (g : gok Γt n = true) (hn : noX Γt = true) (hi : i < X.N.length) (hC : X.mg c = some (.ref C)) (hz : Zc (.ref C) dd oe) (hf : ∃ vs, oe.data = .fields vs)
 (py : PayOk X H lab n c p dd) : SR (X.suite a ((a, oe) :: pn)) (excC Γt i) (σ.set i (some (.ref a))) H (labExc i n lab) (σD.set i (.exn c p)) := by
 refine ⟨by rw [List.length_set]; exact s.l1, by rw [List.length_set]; exact s.l2, fun j k' e => ?_, Like.tb (X := X) (X' := X.suite a ((a, oe) :: pn)) ⟨rfl, rfl, rfl⟩ (s.tb.relab fun c l => by
  unfold labExc
  revert l
  cases lab c <;> intro l <;> first | rfl | cases l)⟩
 by_cases ne : j = i
 · subst ne
   unfold excC at e
   have hl : j < (Γt.map fun o => o.map (dropK j)).length := by
    have := (List.getElem?_eq_some_iff.mp e).1
    rwa [List.length_set] at this
   rw [List.getElem?_set_self hl] at e
   cases e
   refine ⟨.ref a, .exn c p, List.getElem?_set_self (by rw [s.l1]; exact hi), List.getElem?_set_self (by rw [s.l2]; exact hi), ?_⟩
   obtain ⟨vs, hvs⟩ := hf
   have hx : (clX (X.suite a ((a, oe) :: pn))).ex c a dd := ⟨rfl, oe, vs, C, rfl, hvs, hC, hz⟩
   unfold PayOk at py
   split at py
   · rename_i ep
     obtain ⟨rfl, rfl⟩ := py
     exact ⟨[], .e0 hx ep, by simp, fun _ => ⟨by simp, List.nodup_nil, by simp⟩⟩
   · rename_i f ep
     obtain ⟨d, v, q, rfl, hd, ld, hq, r⟩ := py
     have r2 : VR (X.suite a ((a, oe) :: pn)).K (clX (X.suite a ((a, oe) :: pn))) H lab .own (.tmp q) v p := Like.vr (X := X) (X' := X.suite a ((a, oe) :: pn)) ⟨rfl, rfl, rfl⟩ r fun R z => by cases z
     obtain ⟨fp, rp, nd, l⟩ := r2
     have here : ∀ b ∈ d :: fp, labExc j n lab b = .slt j := fun b hb => by
      have lb : lab b = .tmp q := by
       rcases List.mem_cons.mp hb with z | z
       · rw [z]; exact ld
       · exact l b z
      unfold labExc
      rw [lb]
      dsimp only
      rw [if_pos hq]
     refine ⟨d :: fp, .e1 hx ep hd rp, fun b hb => .inr (by rw [here b hb]; simp), fun _ => ⟨by simp, nd, here⟩⟩
 · unfold excC at e
   rw [List.getElem?_set_ne (Ne.symm ne), List.getElem?_map] at e
   cases e2 : Γt[j]? with
   | none => rw [e2] at e; cases e
   | some o =>
    rw [e2] at e
    cases o with
    | none => cases e
    | some k0 =>
     cases e
     obtain ⟨w, d', a', b, c⟩ := s.at_ j k0 e2
     have hk : ∀ R, dropK i k0 ≠ .exc R := fun R z => by
      obtain ⟨R', e3⟩ := dropX z
      have := List.all_eq_true.mp hn _ (List.mem_of_getElem? e2)
      rw [e3] at this
      cases this
     exact ⟨w, d', by rw [List.getElem?_set_ne (Ne.symm ne)]; exact a', by rw [List.getElem?_set_ne (Ne.symm ne)]; exact b, Like.vr (X := X) (X' := X.suite a ((a, oe) :: pn)) ⟨rfl, rfl, rfl⟩ (c.exc_other ne (gok.at_ g e2)) hk⟩
theorem SR.unset {σ : St} (s : SR X Γ σ H lab σD) (h : deadAt Γ i = true) : SR X Γ (σ.set i none) H lab σD := ⟨by rw [List.length_set]; exact s.l1, s.l2, fun j k e => by
 obtain ⟨v, d, a, b, c⟩ := s.at_ j k e
 have ne : j ≠ i := by
  rintro rfl
  unfold deadAt at h
  rw [e] at h
  cases h
 exact ⟨v, d, by rw [List.getElem?_set_ne (Ne.symm ne)]; exact a, b, c⟩, s.tb⟩
theorem gok_exc (g : gok Γ n = true) : gok (excC Γ i) n = true := by
 refine List.all_eq_true.mpr fun o ho => ?_
 obtain ⟨j, hj⟩ := List.mem_iff_getElem?.mp ho
 have sub : ∀ R : List Lab, R.all (keepL [] n) = true → (dropL i R).all (keepL [] n) = true := fun R hR => List.all_eq_true.mpr fun l hl => List.all_eq_true.mp hR l (List.mem_filter.mp hl).1
 unfold excC at hj
 by_cases z : j = i
 · subst z
   have hl : j < (Γ.map fun o => o.map (dropK j)).length := by
    have := (List.getElem?_eq_some_iff.mp hj).1
    rwa [List.length_set] at this
   rw [List.getElem?_set_self hl] at hj
   cases hj
   rfl
 · rw [List.getElem?_set_ne (Ne.symm z), List.getElem?_map] at hj
   cases e2 : Γ[j]? with
   | none => rw [e2] at hj; cases hj
   | some o' =>
    rw [e2] at hj
    cases o' with
    | none => cases hj; rfl
    | some k0 =>
     cases hj
     have := gok.at_ g e2
     cases k0 with
     | own => rfl
     | bor R => exact sub R this
     | spn R => exact sub R this
     | exc R => exact sub R this
theorem PostS.unexc {X' : Cx} (L : Like X X') {fx : Nat → V} {E : Ends} {r : SO} (h1 : noX Γ1 = true) (h2 : noX Z.Γr = true) (h3 : noX Z.Γb = true) (d1 : deadAt Γ1 i = true) (d2 : deadAt Z.Γb i = true) (hio : Z.io.contains i = false)
 (po : PostS X W Z fx Γ1 m n H lab E r) (hne : ∀ c p σ, r ≠ .exc c p σ) {W' : WX} {Γx' : Ctx} : PostS X' W' { Z with Γx := Γx' } fx Γ1 m n H lab { nx := fun σ' H' => E.nx (σ'.set i none) H', rt := E.rt, bk := fun σ' H' => E.bk (σ'.set i none) H', ct := fun σ' H' => E.ct (σ'.set i none) H' } r := by
 have fx' : ∀ {σ : St}, (∀ j ∈ Z.io, σ[j]? = some (some (fx j))) → ∀ j ∈ Z.io, (σ.set i none)[j]? = some (some (fx j)) := fun {σ} h j hj => by
  have ne : j ≠ i := by
   rintro rfl
   have : Z.io.contains j = true := by simpa using hj
   rw [this] at hio; cases hio
  rw [List.getElem?_set_ne (Ne.symm ne)]
  exact h j hj
 cases r with
 | stuck => exact po
 | nxt σ1 => exact fun σ' H' lab' s p => po _ H' lab' ⟨(s.s.like L.symm h1).unset d1, fx' s.f⟩ p
 | ret d σ1 => exact fun v σ' H' lab' j s p r => po v σ' H' lab' j (s.like L.symm h2) p (L.symm.vr r fun R z => by
  have z : retK Z.own = .exc R := z
  unfold retK at z
  split at z <;> cases z)
 | exc c p σ1 => exact absurd rfl (hne c p σ1)
 | brk σ1 => exact fun σ' H' lab' s p => po _ H' lab' ⟨(s.s.like L.symm h3).unset d2, fx' s.f⟩ p
 | cnt σ1 => exact fun σ' H' lab' s p => po _ H' lab' ⟨(s.s.like L.symm h3).unset d2, fx' s.f⟩ p
theorem sj_try {x nm : Str} {cv : Value} {body suite : List Stmt} {b₀ : Stmt} {G Gs : List D → SO} {hit : Str → Option Bool} (hs : X.stack = X.env :: X.outer) (hf : X.env.frame = some X.env.locals) (hN : X.N.Nodup) (hi : X.N[i]? = some nm) (hln : X.env.kindOf nm = some .local) (hc : Names X x cv) (tk : L2N.Takes X W)
 (hh : ∀ c b C, hit c = some b → X.mg c = some (.ref C) → PySem.W.exmOne X.K (.ref C) cv = some b)
 (hb : ∀ (W : WX) (pn : List (Addr × Obj)) (xe : Value → Shared → Prop), L2N.Takes (X.tr pn xe) W → PassesOwn (model X.prog X.w) X.A X.env xe → BJ (X.tr pn xe) W { Z with Γx := Γt } Γ Γ1 n m1 body G)
 (hsu : ∀ (a : Addr) (oe : Obj) (pn : List (Addr × Obj)), PXN.CtxN oe → (∃ vs, oe.data = .fields vs) → BJ (X.suite a ((a, oe) :: pn)) (fun _ _ _ _ => False) { Z with Γx := [] } (excC Γt i) Γ1 n m2 (b₀ :: suite) Gs)
 (q1 : (noX Γ && noX Γt && noX Γ1 && noX Z.Γr && noX Z.Γb && noX Z.Γx && deadAt Γ1 i && deadAt Z.Γb i && leC Γt Z.Γx && !Z.io.contains i && gok Γt n) = true := by decide) :
 SJ X W Z Γ Γ1 n (m1 ++ (i :: m2)) (.Try body [.ExceptHandler (some (.Name x np)) (some nm) (b₀ :: suite) pos'] [] [] pos) (sTry G hit i Gs) := by
 simp only [Bool.and_eq_true, Bool.not_eq_true'] at q1
 obtain ⟨⟨⟨⟨⟨⟨⟨⟨⟨⟨n0, nt⟩, n1⟩, nr⟩, nb⟩, nx⟩, d1⟩, d2⟩, lx⟩, hio⟩, gt⟩ := q1
 have hlt : i < X.N.length := (List.getElem?_eq_some_iff.mp hi).1
 refine ps_imp (L2N.ps_try_as (i := i) (tb := fun W => rdS X W { Z with Γx := Γt } Γ Γ1 n m1 G)
  (ts := fun a cls d => fun E σ H => ∀ oe pn, L2N.Zn cls d oe → (∃ vs, oe.data = .fields vs) → rdS (X.suite a ((a, oe) :: pn)) (fun _ _ _ _ => False) { Z with Γx := [] } (excC Γt i) Γ1 n m2 Gs E σ H)
  hs hf hN hi hln hc tk (fun W pn xe tk po => ?_) (fun a oe cls d pn hz hv => ?_)) fun E σ H h => ?_
 · refine pss_imp (hb W pn xe tk po) fun E σ H h => ?_
   have L : Like X (X.tr pn xe) := ⟨rfl, rfl, rfl⟩
   obtain ⟨σD, lab, fx, g0, s, po⟩ := h
   refine ⟨σD, lab, fx, g0, s.like L n0, ?_⟩
   cases e : G σD with
   | stuck => rw [e] at po; exact po
   | nxt σ1 => rw [e] at po; exact fun σ' H' lab' s p => po σ' H' lab' (s.like L.symm n1) p
   | ret d σ1 => rw [e] at po; exact fun v σ' H' lab' j s p r => po v σ' H' lab' j (s.like L.symm nr) p (L.symm.vr r fun R z => by
    have z : retK Z.own = .exc R := z
    unfold retK at z
    split at z <;> cases z)
   | exc c p σ1 => rw [e] at po; exact fun σ' H' lab' C dd hc s q py => po σ' H' lab' C dd hc (s.like L.symm nt) q (py.like L.symm)
   | brk σ1 => rw [e] at po; exact fun σ' H' lab' s p => po σ' H' lab' (s.like L.symm nb) p
   | cnt σ1 => rw [e] at po; exact fun σ' H' lab' s p => po σ' H' lab' (s.like L.symm nb) p
 · exact pss_imp (hsu a oe pn hz.2.2 hv) fun E σ H h => h oe pn hz hv
 · obtain ⟨σD, lab, fx, g0, s, po⟩ := h
   refine ⟨σD, lab, fx, g0, s, ?_⟩
   unfold sTry at po
   cases e : G σD with
   | stuck => rw [e] at po; exact po
   | nxt σ1 => rw [e] at po; exact fun σ' H' lab' s p => po σ' H' lab' s (p.mono (SubK.left _ _ _))
   | ret d σ1 => rw [e] at po; exact po
   | brk σ1 => rw [e] at po; exact fun σ' H' lab' s p => po σ' H' lab' s (p.mono (SubK.left _ _ _))
   | cnt σ1 => rw [e] at po; exact fun σ' H' lab' s p => po σ' H' lab' s (p.mono (SubK.left _ _ _))
   | exc c p σ1 =>
    rw [e] at po
    intro σ' H' lab' C dd hC s1 pr py
    dsimp only at po
    cases eh : hit c with
    | none => rw [eh] at po; exact po.elim
    | some b =>
     rw [eh] at po
     refine ⟨b, hh c b C eh hC, fun eb a ha => ?_, fun eb => ?_⟩
     · subst eb
       intro oe pn hz hv
       dsimp only at po
       have L : Like X (X.suite a ((a, oe) :: pn)) := ⟨rfl, rfl, rfl⟩
       have P2 : Pres [i] n H' lab' H' (labExc i n lab') := .exc
       have po2 := PostS.later (m := m1 ++ (i :: m2)) (m1 := m1) (m2 := m1 ++ (i :: m2)) po pr (SubK.left _ _ _) (SubK.refl _ _)
       have po3 := PostS.later (m2 := m2) po2 P2 (.of (fun j hj => by simp at hj; simp [hj]) (Nat.le_refl _)) (.of (fun j hj => by simp [hj]) (Nat.le_refl _))
       refine ⟨_, _, fx, gok_exc gt, ⟨s1.s.excd gt nt hlt hC hz.zc hv py, fun j hj => ?_⟩, ?_⟩
       · have ne : j ≠ i := by
          rintro rfl
          have : Z.io.contains j = true := by simpa using hj
          rw [this] at hio; cases hio
         rw [List.getElem?_set_ne (Ne.symm ne)]
         exact s1.f j hj
       · cases eg : Gs (σ1.set i (.exn c p)) with
         | exc c2 p2 σ2 => rw [eg] at po3; exact po3.elim
         | stuck => rw [eg] at po3; exact po3.elim
         | _ =>
          rw [eg] at po3
          exact PostS.unexc (Z := Z) (W := W) L n1 nr nb d1 d2 hio po3 (fun _ _ _ z => by cases z)
     · subst eb
       exact po σ' H' lab' C dd hC ⟨s1.s.weak lx, s1.f⟩ (pr.mono (SubK.left _ _ _)) py
end
end Ow
namespace Ow
open PySem PySem.Spec PySem.SeqAt PyProof.Rows L2
inductive Tn where
 | non | bool | int | str | tuple | list | dict
 deriving DecidableEq, Repr
def Tn.s : Tn → String
 | .non => "NoneType"
 | .bool => "bool"
 | .int => "int"
 | .str => "str"
 | .tuple => "tuple"
 | .list => "list"
 | .dict => "dict"
def D.tn : D → Option Tn
 | .non => some .non
 | .bl _ => some .bool
 | .int _ => some .int
 | .str _ => some .str
 | .tup _ => some .tuple
 | .lst _ => some .list
 | .fzl _ => some .list
 | .dK _ => some .dict
 | .dT _ => none
 | _ => none
def Tn.sub : Tn → Tn → Bool
 | .bool, .int => true
 | a, b => decide (a = b)
theorem Tn.kit (a b : Tn) (hb : b ≠ .non) : kitB a.s b.s = some (a.sub b) := by
 cases b <;> first | exact absurd rfl hb | (cases a <;> decide +kernel)
theorem Rp.tyx {K : PySem.W.Frag} {cl : CE} {H : Hp} {v : V} {d : D} {fp : List Addr} {t : Tn} (h : Rp K cl H v d fp) (e : d.tn = some t) : TyX K H v (.type t.s) := by
 cases h with
 | non => cases e; exact .base .non
 | bl b => cases e; exact .base (.bl b)
 | int i => cases e; exact .base (.int i)
 | str x => cases e; exact .base (.str x)
 | tup h r =>
  cases e
  rcases h with (h | ⟨o, h⟩) | ⟨o, its, n, h, hc, _⟩
  · exact .base (.tup h)
  · exact .fTuple h
  · exact .kTuple h hc
 | lst h r => cases e; exact .base (.lst h)
 | lsf h r =>
  cases e
  rcases h with ⟨o, h⟩ | ⟨o, its, n, h, hc, _⟩
  · exact .base (.frz h)
  · exact .kList h hc
 | dK h k r => cases e; exact .base (.dK h)
 | dT h ok hk k hv r => cases e
 | ins c h k r => cases e
 | fzk h kk r => cases e
 | fzt h ok hk kk hv r hne => cases e
def fIs (T : Tn) (d : D) : Option D := d.tn.map fun t => .bl (t.sub T)
section
variable {X : Cx} {W : WX} {Z : SC} {Γx Γ Γ' : Ctx} {n r : Nat} {m m1 m2 : List Nat} {pos p p2 : Pos} {a b o e : Expr} {es : List Expr} {ga gb g : List D → ER D} {gs : List D → ER (List D)} {k k1 : Kd} {ks : List AK}
theorem ej_is {x2 : Str} {T : Tn} (hT : T ≠ .non) (hm : X.mg "isinstance" = none) (hv : X.mg x2 = none) (hb : bootBuiltins x2 = some (.type T.s)) (ha : EJ X W Γx Γ n m a g k) (hg : Gl X "isinstance" := by rfl) (hg2 : Gl X x2 := by rfl) (h1 : x2 ≠ "__name__" := by decide) (h2 : (x2 == ("__debug__" : Str)) = false := by decide)
 (hs : starEach [a, .Name x2 p2] X.env = (false, eval a X.env) :: starEach [.Name x2 p2] X.env := by rfl) (hs2 : starEach [.Name x2 p2] X.env = (false, eval (.Name x2 p2) X.env) :: starEach [] X.env := by rfl) (hpl : (backTo pos (starEach [.Name x2 p2] X.env)).any (·.1) = false := by rfl) :
 EJ X W Γx Γ n m (.Call (.Name "isinstance" p) [a, .Name x2 p2] [] pos) (eUn (fIs T) g) .own := by
 refine pe_imp (pe_callB call_isi hg hm (by decide +kernel) (pa_cons ha (pa_cons (pe_bltn (v := .ty T.s) hg2 hv hb rfl h1 h2) pa_nil hs2) hs) (by decide) (by decide) hs hpl) fun σ H Q h => ?_
 obtain ⟨σD, lab, g0, s, po⟩ := h
 refine ⟨σD, lab, g0, s, po.last fun d σD1 v H1 lab1 s1 p1 r1 po1 => ?_⟩
 obtain ⟨z, e, q⟩ := po1.done
 unfold fIs at e
 cases et : d.tn with
 | none => rw [et] at e; cases e
 | some t =>
  rw [et] at e
  cases e
  obtain ⟨fp, rp⟩ := r1.rp (by cases d <;> first | rfl | cases et)
  exact ⟨_, _, _, _, _, rfl, .ty _, rp.tyx et, kit_ty (Tn.kit t T hT), q _ H1 lab1 s1 (.refl _ _ _ _) (SV.bl _).vr⟩
def eIsX (hit : Str → Option Bool) (g : List D → ER D) : List D → ER D := fun σ => (g σ).bind fun d σ1 => match d with
 | .exn c _ => ofO ((hit c).map .bl) σ1
 | _ => .stuck
structure ExAt (X : Cx) (H : Hp) (a C : Addr) (oe : Obj) (dd : Option Addr) : Prop where
 pin : (a, oe) ∈ X.pn
 fields : ∃ vs, oe.data = .fields vs
 zc : Zc (.ref C) dd oe
 dict : ∀ d, dd = some d → ∃ fs, H d = some (.xd fs)
theorem ExAt.inst {pins : List (Addr × Obj)} {s : Shared} {σ : St} {H : Hp} {a C : Addr} {oe : Obj} {dd : Option Addr} (x : ExAt X H a C oe dd) (I : Inv X pins σ H s) : ∃ od, PySem.W.InstAt s.heap a oe C od ∧ (dd = none → od = none) ∧
 ∀ d fs, dd = some d → H d = some (.xd fs) → ∃ (o : Obj) (mA : Str → Option Value), od = some o ∧ (∀ f, PySem.W.lookIn f o = some (mA f)) ∧ ∀ f, RelO (fs.lookup f) (mA f) := by
 have here := (I.pin (a, oe) (List.mem_append_left _ x.pin)).1
 have nocls : PySem.W.notCls oe := by
  obtain ⟨vs, hv⟩ := x.fields
  unfold PySem.W.notCls
  rw [hv]
 obtain ⟨z1, z2⟩ := x.zc
 cases dd with
 | none => exact ⟨none, ⟨here, z1, nocls, by rw [z2]; trivial⟩, fun _ => rfl, nofun⟩
 | some d =>
  obtain ⟨fs, hd⟩ := x.dict d rfl
  have there : ObjOk X.prog X.w H s.heap d (.xd fs) := I.hok d _ hd
  obtain ⟨mA, ns, rel⟩ := there
  obtain ⟨o, at_, look⟩ := lookIn_ns ns
  refine ⟨some o, ⟨here, z1, nocls, by rw [z2]; exact at_⟩, nofun, fun d' fs' e hd' => ?_⟩
  cases e
  rw [hd] at hd'
  cases hd'
  exact ⟨o, mA, rfl, look, rel⟩
def rIsX (X : Cx) : List V → Hp → VK → Prop := fun xs H Q => ∃ (a : Addr) (c : V) (cv : Value) (C : Addr) (oe : Obj) (dd : Option Addr) (b : Bool), xs = [.ref a, c] ∧ (∀ u, RelV c u → u = cv) ∧ ExAt X H a C oe dd ∧ ExcC X.K C ∧ PySem.W.kitOne X.K (.ref C) cv = some b ∧ Q (.bl b) H
theorem call_isX : CallR X (.builtin "isinstance") (rIsX X) := by
 intro pins s σ H xs us Q inv rel said
 obtain ⟨a, c, cv, C, oe, dd, b, rfl, only, ex, T, e, q⟩ := said
 obtain ⟨u1, u2, rfl, first, second⟩ := vals2 rel
 cases (show u1 = Value.ref a by exact first)
 have eu := only _ second
 subst eu
 obtain ⟨od, J, _⟩ := ex.inst inv
 have some_ : (PySem.W.clsIn X.K C).isSome = true := by
  have := T.hd
  unfold PySem.W.hasDictIn at this
  cases h : PySem.W.clsIn X.K C with
  | none => rw [h] at this; cases this
  | some _ => rfl
 have kit := PySem.W.kitx_exc (x := a) (ox := oe) (od := od) some_ T.hg T.hk T.hs T.ha T.hn T.ht T.hm
 exact PySem.W.kia_one kit inv.kIn J e nofun fun tk => ⟨.bl b, H, inv.tok tk, rfl, q⟩
theorem RpE.at_ {H : Hp} {v : V} {c : Str} {p : D} {fp : List Addr} (r : RpE X.K (clX X) H v (.exn c p) fp) : ∃ (a C : Addr) (oe : Obj) (dd : Option Addr), v = .ref a ∧ X.mg c = some (.ref C) ∧ ExAt X H a C oe dd ∧
 match pfOf c with
 | none => p = .non ∧ dd = none ∧ fp = []
 | some f => ∃ d y fq, dd = some d ∧ H d = some (.xd [(f, y)]) ∧ Rp X.K (clX X) H y p fq ∧ fp = d :: fq := by
 have mem : ∀ {a : Addr} {oe : Obj}, X.pn.head? = some (a, oe) → (a, oe) ∈ X.pn := fun {a oe} h => by
  cases e : X.pn with
  | nil => rw [e] at h; cases h
  | cons x l => rw [e] at h; cases h; exact List.mem_cons_self
 cases r with
 | @e0 a c hx hp =>
  obtain ⟨_, oe, vs, C, head, fields, hC, hz⟩ := hx
  refine ⟨a, C, oe, none, rfl, hC, ⟨mem head, ⟨vs, fields⟩, hz, nofun⟩, ?_⟩
  rw [hp]; exact ⟨rfl, rfl, rfl⟩
 | @e1 a d c f y p fq hx hp hd rr =>
  obtain ⟨_, oe, vs, C, head, fields, hC, hz⟩ := hx
  refine ⟨a, C, oe, some d, rfl, hC, ⟨mem head, ⟨vs, fields⟩, hz, fun d' e => by cases e; exact ⟨_, hd⟩⟩, ?_⟩
  rw [hp]; exact ⟨d, y, fq, rfl, hd, rr, rfl⟩
theorem ej_isx {R : List Lab} {x2 : Str} {v2 : V} {cv : Value} {hit : Str → Option Bool} (hm : X.mg "isinstance" = none) (ha : EJ X W Γx Γ n m a g (.exc R)) (h2 : PE X (.Name x2 p2) (tC v2)) (hcv : ∀ u, RelV v2 u → u = cv)
 (hh : ∀ c b C, hit c = some b → X.mg c = some (.ref C) → ExcC X.K C ∧ PySem.W.kitOne X.K (.ref C) cv = some b) (hg : Gl X "isinstance" := by rfl)
 (hs : starEach [a, .Name x2 p2] X.env = (false, eval a X.env) :: starEach [.Name x2 p2] X.env := by rfl) (hs2 : starEach [.Name x2 p2] X.env = (false, eval (.Name x2 p2) X.env) :: starEach [] X.env := by rfl) (hpl : (backTo pos (starEach [.Name x2 p2] X.env)).any (·.1) = false := by rfl) :
 EJ X W Γx Γ n m (.Call (.Name "isinstance" p) [a, .Name x2 p2] [] pos) (eIsX hit g) .own := by
 refine pe_imp (pe_callB call_isX hg hm (by decide +kernel) (pa_cons ha (pa_cons h2 pa_nil hs2) hs) (by decide) (by decide) hs hpl) fun σ H Q h => ?_
 obtain ⟨σD, lab, g0, s, po⟩ := h
 refine ⟨σD, lab, g0, s, po.last fun d σD1 v H1 lab1 s1 p1 r1 po1 => ?_⟩
 obtain ⟨fp, rp, _⟩ := r1
 have isE : ∃ c p, d = .exn c p := by cases rp <;> exact ⟨_, _, rfl⟩
 obtain ⟨c, p, rfl⟩ := isE
 obtain ⟨a, C, oe, dd, rfl, hC, ex, _⟩ := rp.at_
 dsimp only at po1
 obtain ⟨z, e, q⟩ := po1.done
 cases eh : hit c with
 | none => rw [eh] at e; cases e
 | some b =>
  rw [eh] at e
  cases e
  obtain ⟨T, hk⟩ := hh c b C eh hC
  exact ⟨a, _, cv, C, oe, dd, b, rfl, hcv, ex, T, hk, q _ H1 lab1 s1 (.refl _ _ _ _) (SV.bl _).vr⟩
def eMeth (T : String) (f : D → List D → Option D) (g : List D → ER D) (gs : List D → ER (List D)) : List D → ER D := fun σ => (g σ).bind fun d σ1 => if isTy T d = true then (gs σ1).bind fun ds σ2 => ofO (f d ds) σ2 else .stuck
def labsK : Kd → List Lab
 | .own => []
 | .bor R => R
 | .spn R => R
 | .exc R => R
def dCatT : D → D → Option D
 | .tup xs, .tup ys => if xs.length + ys.length ≤ sizeLine then some (.tup (xs ++ ys)) else none
 | _, _ => none
theorem VR.tupE {K : PySem.W.Frag} {cl : CE} {H : Hp} {lab : Labs} {v : V} {ds : List D} {j : Nat} (h : VR K cl H lab k (.tmp j) v (.tup ds)) : ∃ a vs fp, v = .ref a ∧ SqT K H a vs ∧ RpL K cl H vs ds fp ∧ ∀ b ∈ fp, (lab b = .tmp j) ∨ bw (labsK k) (lab b) := by
 cases k with
 | own =>
  obtain ⟨fp, r, nd, l⟩ := h
  cases r with
  | tup h r => exact ⟨_, _, _, rfl, h, r, fun b hb => .inl (l b hb)⟩
 | bor R =>
  obtain ⟨fp, r, l⟩ := h
  cases r with
  | tup h r => exact ⟨_, _, _, rfl, h, r, fun b hb => .inr (l b hb)⟩
 | spn R =>
  obtain ⟨a, vs, ds', fp, rfl, e, ha, r, la, l⟩ := h
  cases e
 | exc R => obtain ⟨fp, r, _⟩ := h; cases r
theorem ej_catT (ha : EJ X W Γx Γ n m1 a ga k) (hb : EJ X W Γx Γ (n + 1) m2 b gb k1) (ok : okK m2 (n + 1) k = true := by decide) : EJ X W Γx Γ n (m1 ++ m2) (.BinOp a .Add b pos) (eBin dCatT ga gb) (.bor (labsK k ++ labsK k1)) := by
 refine pe_imp (pe_op op_catA ha hb) fun σ H Q h => ?_
 obtain ⟨σD, lab, g0, s, po⟩ := h
 refine ⟨σD, lab, g0, s, po.seq' fun x σD1 v H1 lab1 s1 p1 r1 po1 => ?_⟩
 refine ⟨σD1, lab1, gok.up g0, s1, po1.seq (SubK.up _ _) (Nat.le_succ _) (SubK.nil _ _) (Nat.le_refl _) fun y σD2 w H2 lab2 s2 p2 r2 po2 => ?_⟩
 have r1 := VR.pres p2 r1 ok (by simp [keepL])
 obtain ⟨z, e, q⟩ := po2.done
 cases x with
 | tup xs => cases y with
  | tup ys =>
   simp only [dCatT] at e
   split at e
   · rename_i hz
     cases e
     obtain ⟨l, vs, f1, rfl, h1, l1, b1⟩ := r1.tupE
     obtain ⟨l', ws, f2, rfl, h2, l2, b2⟩ := r2.tupE
     have ra := l1.append l2
     have lab' : ∀ b ∈ f1 ++ f2, (∃ j, n ≤ j ∧ lab2 b = .tmp j) ∨ bw (labsK k ++ labsK k1) (lab2 b) := fun b hb => by
      rcases List.mem_append.mp hb with z | z
      · rcases b1 b z with e | e
        · exact .inl ⟨n, Nat.le_refl _, e⟩
        · exact .inr (e.elim .inl fun z => .inr (List.mem_append_left _ z))
      · rcases b2 b z with e | e
        · exact .inl ⟨n + 1, Nat.le_succ _, e⟩
        · exact .inr (e.elim .inl fun z => .inr (List.mem_append_right _ z))
     have P0 : Pres [] n H2 lab2 H2 (colF n lab2) := .colF
     refine ⟨l, l', vs, ws, rfl, rfl, h1, h2, by rw [l1.len, l2.len]; exact hz, fun e => ?_, fun _ e => ?_, fun _ _ p hp => ?_⟩
     · subst e
       refine q _ _ _ (s2.pres g0 P0) P0 ⟨f1 ++ f2, .tup h2 ra, fun b hb => bw_colF (lab' b hb)⟩
     · subst e
       refine q _ _ _ (s2.pres g0 P0) P0 ⟨f1 ++ f2, .tup h1 (by rw [List.append_nil] at ra; exact ra), fun b hb => bw_colF (lab' b hb)⟩
     · have P : Pres [] n H2 lab2 (upd H2 p (.tup (vs ++ ws))) (setL (colF n lab2) p (.tmp n)) := P0.trans (.alloc hp rfl) (SubK.refl _ _) (SubK.refl _ _)
       have ne : ∀ b ∈ f1 ++ f2, b ≠ p := fun b hb e => by
        obtain ⟨o, q, _⟩ := ra.alloc b hb
        rw [e, hp] at q; cases q
       refine q _ _ _ (s2.pres g0 P) P ⟨f1 ++ f2, .tup (.of upd_same) (ra.ext (TK.new hp) fun b hb => upd_ne (ne b hb)), fun b hb => ?_⟩
       show bw _ (if b = p then _ else _)
       rw [if_neg (ne b hb)]
       exact bw_colF (lab' b hb)
   · cases e
  | _ => cases e
 | _ => cases y <;> cases e
end
end Ow
namespace Ow
open PySem PySem.Spec PySem.SeqAt PyProof.Rows L2
section
variable {P : Program} {w : World} {K : PySem.W.Frag} {mg : Str → Option Value} {base : Heap}
theorem okF {x qual : Str} {params : Arguments} {body : List Stmt} {scope : Scope} {f : Addr} {fd : FuncData} {N ps : List Str} {lv np nl : Nat} {io m : List Nat} {own : Ret} {G : List D → SO} {Γ' : Ctx} (F : FunD K x qual params body scope [] [] f fd) (S : FnScope N ps scope)
 (hnp : ps.length = np) (hnl : N.length = nl) (hio : io.all (fun i => decide (i < np)) = true) (hpn : np ≤ nl) (hl : leC Γ' (ctxIo nl io) = true)
 (hb : ∀ (cdv : Value) (A : Around) (outer : List Env) (s : Shared) (H : Hp) (E : XK), Room lv (A.deeper (envOfC qual scope s.heap.objs.size f cdv)) →
  BJ (cxOf (L2N.CX P w) P w K mg base N qual scope f cdv A outer s H E) (wOf E) (scOf nl io own) (ctx0 np nl io [] own) Γ' 0 m body G) :
 FnOk P w K mg base (L2N.CX P w) (lv + 1) f fd ps (spD K (clM mg) np io [] own (fnD nl io G)) := by
 refine F.ok S (fun vs H Q E h => ?_) (fun cdv A outer s H vs Q E hr h => ⟨_, hb cdv A outer s H E hr, ?_⟩)
 · obtain ⟨ds, lab, h1, _⟩ := h
   rw [h1, hnp]
 · exact okD_read (X := cxOf (L2N.CX P w) P w K mg base N qual scope f cdv A outer s H E) (CEq.calm rfl) hnl hio hpn hl h
end
structure HotX (X : Cx) (p : Addr × Obj) : Prop where
 c : X.calm = false
 h : X.pn.head? = some p
 o : L2H.Hot1 X.A p
section
variable {X : Cx} {W : WX} {Γx Γ : Ctx} {n lv np : Nat} {m : List Nat} {ks : List AK} {rs io xs : List Nat} {own : Ret} {Fd : List D → FR} {f : Addr} {fd : FuncData} {ps : List Str} {x : Str} {p pos : Pos} {e : Expr} {es : List Expr} {gs : List D → ER (List D)} {pp : Addr × Obj}
theorem HotX.suite {a : Addr} {oe : Obj} {pn : List (Addr × Obj)} (h1 : PXN.CtxN oe) (h2 : ∃ vs, oe.data = .fields vs) : HotX (X.suite a ((a, oe) :: pn)) (a, oe) := ⟨rfl, rfl, rfl, by
 obtain ⟨vs, h⟩ := h2
 exact ⟨vs, h, h1 vs h⟩⟩
theorem HotX.mem (h : HotX X pp) : pp ∈ X.pn := by
 have e := h.h
 cases hl : X.pn with
 | nil => rw [hl] at e; cases e
 | cons y l => rw [hl] at e; cases e; exact List.mem_cons_self
theorem takesN {X : Cx} : L2N.Takes X (fun _ _ _ _ => False) := fun _ _ ⟨_, _, _, _, _, _, _, _, _, _, _, _, _, _, _, _, z⟩ => z.elim
end
end Ow
namespace Ow
open PySem PySem.Spec PySem.SeqAt PyProof.Rows L2
def excAll : List Str := ["NoFraction", "NoSeries", "NoMachine", "Ring", "NoRoom", "NotEven", "NotLean", "Held", "Stopped", "TooFar", "NoGear", "NoDeed", "NoText", "NoSaying", "NoName", "NoBench", "TooMany"]
def excAll2 : List Str := "RollError" :: excAll
def exRel (c c2 : Str) : Bool := c == c2 || c2 == "RollError"
def hitX (c2 : Str) : Str → Option Bool := fun c => if excAll.contains c then some (exRel c c2) else none
def hitVE : Str → Option Bool := fun c => if excAll.contains c then some true else none
def excCB (K : PySem.W.Frag) (D : Addr) : Bool :=
 decide (PySem.W.findIn K (.ref D) "__getattribute__" = some (some (.builtin "BaseException.__getattribute__"))) && (decide (PySem.W.findIn K (.ref D) "__getattr__" = some none) && (decide (PySem.W.subIn K (.ref D) (.type "BaseException") = some true) && (PySem.W.hasDictIn K D && (decide (PySem.W.findIn K (.ref D) "__class__" = some (some (.builtin "object.__class__"))) &&
  (decide (PySem.W.specialIn K (.builtin "object.__class__") "__get__" = some (some (.builtin "getset_descriptor.__get__"))) && (decide (PySem.W.takesIn K (.builtin "object.__class__") = some true) && decide (PySem.W.mroIn K D (.type "object") = some true)))))))
theorem excCB_ok {K : PySem.W.Frag} {D : Addr} (h : excCB K D = true) : ExcC K D := by
 unfold excCB at h
 simp only [Bool.and_eq_true, decide_eq_true_eq] at h
 exact ⟨h.1, h.2.1, h.2.2.1, h.2.2.2.1, h.2.2.2.2.1, h.2.2.2.2.2.1, h.2.2.2.2.2.2.1, h.2.2.2.2.2.2.2⟩
def oexB (K : PySem.W.Frag) (C : Addr) : Bool :=
 (match K.lookup C with
 | some ⟨.type "type", _, .cls cd, sl⟩ => (match cd.mro, sl.toList with
  | .ref D :: up, [_, _, _, _, some (.builtin nw), _] => decide (D = C) && (decide (nw = "ValueError.__new__") && (!cd.hasDel && (cd.hasDict && PySem.HandSPX.refsVE up)))
  | _, _ => false)
 | _ => false) && (decide (PySem.W.findIn K (.ref C) "__setattr__" = some (some (.builtin "object.__setattr__"))) && (decide (PySem.W.subIn K (.ref C) (.type "BaseException") = some true) && (decide (PySem.W.typeIn K (.ref C) = some (.type "type")) && PySem.W.keepIn K (.ref C))))
theorem oexB_ok {K : PySem.W.Frag} {C : Addr} (h : oexB K C = true) : OexC K C := by
 obtain ⟨shape, rest⟩ := Bool.and_eq_true_iff.mp h
 obtain ⟨s1, rest⟩ := Bool.and_eq_true_iff.mp rest
 obtain ⟨s2, rest⟩ := Bool.and_eq_true_iff.mp rest
 obtain ⟨s3, s4⟩ := Bool.and_eq_true_iff.mp rest
 refine ⟨?_, of_decide_eq_true s1, of_decide_eq_true s2, of_decide_eq_true s3, s4⟩
 revert shape
 match K.lookup C with
 | none => exact nofun
 | some ob =>
  intro shape
  split at shape
  case h_2 => cases shape
  case h_1 dd cd sl same =>
   cases same
   split at shape
   case h_2 => cases shape
   case h_1 D up k0 k1 k2 k3 nw k5 mro slots =>
    simp only [Bool.and_eq_true, decide_eq_true_eq, Bool.not_eq_true'] at shape
    obtain ⟨eD, enw, nodel, dict, tail⟩ := shape
    subst eD enw
    cases cd
    cases sl
    simp only at mro nodel dict slots
    subst mro nodel dict slots
    exact ⟨_, _, _, _, _, _, _, _, _, _, _, _, _, _, _, rfl, tail⟩
def raiseB (K : PySem.W.Frag) (C : Addr) : Bool := PySem.W.excIn K C He.veBase "ValueError.__new__" && (PySem.W.keepIn K (.ref C) && (decide (PySem.W.subIn K (.ref C) (.type "BaseException") = some true) && decide (PySem.W.typeIn K (.ref C) = some (.type "type"))))
def pairB (K : PySem.W.Frag) (c : Str) (C : Addr) (c2 : Str) : Bool := match PySem.W.nsIn K mainGlobals c2 with
 | some none => true
 | some (some (.ref C2)) => decide (PySem.W.exmOne K (.ref C) (.ref C2) = some (exRel c c2)) && decide (PySem.W.kitOne K (.ref C) (.ref C2) = some (exRel c c2))
 | _ => false
def fldB (K : PySem.W.Frag) (C : Addr) : Option Str → Bool
 | none => raiseB K C
 | some f => oexB K C && decide (PySem.W.findIn K (.ref C) f = some none)
def exB (K : PySem.W.Frag) : Bool := excAll.all fun c => match PySem.W.nsIn K mainGlobals c with
 | some none => true
 | some (some (.ref C)) => excCB K C && (decide (PySem.W.kitOne K (.ref C) (.type "ValueError") = some true) && (fldB K C (pfOf c) && excAll2.all (pairB K c C)))
 | _ => false
structure ExFx (K : PySem.W.Frag) (mg : Str → Option Value) : Prop where
 cls : ∀ {c : Str} {C : Addr}, c ∈ excAll → mg c = some (.ref C) → ExcC K C ∧ PySem.W.kitOne K (.ref C) (.type "ValueError") = some true
 rais : ∀ {c : Str} {C : Addr}, c ∈ excAll → pfOf c = none → mg c = some (.ref C) → PySem.W.excIn K C He.veBase "ValueError.__new__" = true ∧ PySem.W.keepIn K (.ref C) = true ∧ PySem.W.subIn K (.ref C) (.type "BaseException") = some true ∧ PySem.W.typeIn K (.ref C) = some (.type "type")
 fld : ∀ {c f : Str} {C : Addr}, c ∈ excAll → pfOf c = some f → mg c = some (.ref C) → OexC K C ∧ PySem.W.findIn K (.ref C) f = some none
 pair : ∀ {c c2 : Str} {C C2 : Addr}, c ∈ excAll → c2 ∈ excAll2 → mg c = some (.ref C) → mg c2 = some (.ref C2) → PySem.W.exmOne K (.ref C) (.ref C2) = some (exRel c c2) ∧ PySem.W.kitOne K (.ref C) (.ref C2) = some (exRel c c2)
theorem ns_ref {K : PySem.W.Frag} {h : Heap} {mg : Str → Option Value} (X : K.In h) (G : h.Ns mainGlobals mg) {c : Str} {C : Addr} (e : mg c = some (.ref C)) (b : match PySem.W.nsIn K mainGlobals c with
 | some none => True
 | some (some (.ref _)) => True
 | _ => False) : PySem.W.nsIn K mainGlobals c = some (some (.ref C)) := by
 cases q : PySem.W.nsIn K mainGlobals c with
 | none => rw [q] at b; exact b.elim
 | some o =>
  cases o with
  | none => rw [PySem.W.mg_none_of X G q] at e; cases e
  | some v => rw [PySem.W.mg_of X G q] at e; rw [Option.some.inj e]
theorem exB_ok {K : PySem.W.Frag} {h : Heap} {mg : Str → Option Value} (X : K.In h) (G : h.Ns mainGlobals mg) (b : exB K = true) : ExFx K mg := by
 have one : ∀ {c : Str} {C : Addr}, c ∈ excAll → mg c = some (.ref C) → excCB K C = true ∧ PySem.W.kitOne K (.ref C) (.type "ValueError") = some true ∧ fldB K C (pfOf c) = true ∧ excAll2.all (pairB K c C) = true := fun {c C} hc e => by
  have h1 := List.all_eq_true.mp b c hc
  have h2 : PySem.W.nsIn K mainGlobals c = some (some (.ref C)) := by
   refine ns_ref X G e ?_
   split at h1
   · trivial
   · trivial
   · cases h1
  rw [h2] at h1
  simp only [Bool.and_eq_true, decide_eq_true_eq] at h1
  exact h1
 refine ⟨fun hc e => ?_, fun {c C} hc hp e => ?_, fun {c f C} hc hp e => ?_, fun {c c2 C C2} hc hc2 e e2 => ?_⟩
 · obtain ⟨h1, h2, _⟩ := one hc e
   exact ⟨excCB_ok h1, h2⟩
 · obtain ⟨_, _, h3, _⟩ := one hc e
   rw [hp] at h3
   have h3 : raiseB K C = true := h3
   unfold raiseB at h3
   simp only [Bool.and_eq_true, decide_eq_true_eq] at h3
   exact ⟨h3.1, h3.2.1, h3.2.2.1, h3.2.2.2⟩
 · obtain ⟨_, _, h3, _⟩ := one hc e
   rw [hp] at h3
   obtain ⟨h4, h5⟩ := Bool.and_eq_true_iff.mp h3
   exact ⟨oexB_ok h4, of_decide_eq_true h5⟩
 · obtain ⟨_, _, _, h4⟩ := one hc e
   have h5 := List.all_eq_true.mp h4 c2 hc2
   unfold pairB at h5
   have h2 : PySem.W.nsIn K mainGlobals c2 = some (some (.ref C2)) := by
    refine ns_ref X G e2 ?_
    split at h5
    · trivial
    · trivial
    · cases h5
   rw [h2] at h5
   simp only [Bool.and_eq_true, decide_eq_true_eq] at h5
   exact h5
theorem hit_mem {c2 c : Str} {b : Bool} (h : hitX c2 c = some b) : c ∈ excAll ∧ b = exRel c c2 := by
 unfold hitX at h
 split at h
 · rename_i z
   exact ⟨by simpa using z, (Option.some.inj h).symm⟩
 · cases h
section
variable {K : PySem.W.Frag} {mg : Str → Option Value}
theorem ExFx.exm (F : ExFx K mg) {c2 : Str} {C2 : Addr} (e2 : mg c2 = some (.ref C2)) (m2 : c2 ∈ excAll2) : ∀ c b C, hitX c2 c = some b → mg c = some (.ref C) → PySem.W.exmOne K (.ref C) (.ref C2) = some b := fun c b C h e => by
 obtain ⟨h1, rfl⟩ := hit_mem h
 exact (F.pair h1 m2 e e2).1
theorem ExFx.kit (F : ExFx K mg) {c2 : Str} {C2 : Addr} (e2 : mg c2 = some (.ref C2)) (m2 : c2 ∈ excAll2) : ∀ c b C, hitX c2 c = some b → mg c = some (.ref C) → ExcC K C ∧ PySem.W.kitOne K (.ref C) (.ref C2) = some b := fun c b C h e => by
 obtain ⟨h1, rfl⟩ := hit_mem h
 exact ⟨(F.cls h1 e).1, (F.pair h1 m2 e e2).2⟩
theorem ExFx.kitVE (F : ExFx K mg) : ∀ c b C, hitVE c = some b → mg c = some (.ref C) → ExcC K C ∧ PySem.W.kitOne K (.ref C) (.type "ValueError") = some b := fun c b C h e => by
 unfold hitVE at h
 split at h
 · rename_i z
   cases h
   exact F.cls (by simpa using z) e
 · cases h
end
section
variable {X : Cx} {W : WX} {Z : SC} {Γx Γ Γ' : Ctx} {n : Nat} {m : List Nat} {p p2 pos pos2 : Pos} {a : Expr} {g : List D → ER D} {R : List Lab}
theorem sj_raiseX {c mm : Str} {C : Addr} {j : Nat} (F : ExFx X.K X.mg) (hc : X.calm = true) (tk : L2N.Takes X W) (gC : X.mg c = some (.ref C)) (hm : c ∈ excAll := by decide) (hp : pfOf c = none := by decide) (hg : Gl X c := by rfl) (hdb : (c == ("__debug__" : Str)) = false := by decide) (l : leC Γ Z.Γx = true := by decide) :
 SJ X W Z Γ Γ' n [] (.Raise (some (.Call (.Name c p) [.Constant (.str mm) j p2] [] pos)) none pos2) (sRaise c) := by
 obtain ⟨h1, h2, h3, h4⟩ := F.rais hm hp gC
 exact sj_raise hc tk (L2N.pmk_own PySem.F.excBase_ValueError h1 gC h2 (raises_own h3 h4) hg hdb) gC hp l
theorem ej_isxC {c2 : Str} {C2 : Addr} (F : ExFx X.K X.mg) (hm : X.mg "isinstance" = none) (g2 : X.mg c2 = some (.ref C2)) (ha : EJ X W Γx Γ n m a g (.exc R)) (m2 : c2 ∈ excAll2 := by decide) (hg : Gl X "isinstance" := by rfl) (hg2 : Gl X c2 := by rfl) (hdb : (c2 == ("__debug__" : Str)) = false := by decide)
 (hs : starEach [a, .Name c2 p2] X.env = (false, eval a X.env) :: starEach [.Name c2 p2] X.env := by rfl) (hs2 : starEach [.Name c2 p2] X.env = (false, eval (.Name c2 p2) X.env) :: starEach [] X.env := by rfl) (hpl : (backTo pos (starEach [.Name c2 p2] X.env)).any (·.1) = false := by rfl) :
 EJ X W Γx Γ n m (.Call (.Name "isinstance" p) [a, .Name c2 p2] [] pos) (eIsX (hitX c2) g) .own :=
 ej_isx (cv := .ref C2) hm ha (pe_glob hg2 g2 (v := .ref C2) rfl hdb) (fun u r => r) (F.kit g2 m2) hg hs hs2 hpl
theorem ej_isxV (F : ExFx X.K X.mg) (hm : X.mg "isinstance" = none) (g2 : X.mg "ValueError" = none) (ha : EJ X W Γx Γ n m a g (.exc R)) (hg : Gl X "isinstance" := by rfl) (hg2 : Gl X "ValueError" := by rfl)
 (hs : starEach [a, .Name "ValueError" p2] X.env = (false, eval a X.env) :: starEach [.Name "ValueError" p2] X.env := by rfl) (hs2 : starEach [.Name "ValueError" p2] X.env = (false, eval (.Name "ValueError" p2) X.env) :: starEach [] X.env := by rfl) (hpl : (backTo pos (starEach [.Name "ValueError" p2] X.env)).any (·.1) = false := by rfl) :
 EJ X W Γx Γ n m (.Call (.Name "isinstance" p) [a, .Name "ValueError" p2] [] pos) (eIsX hitVE g) .own :=
 ej_isx (cv := .type "ValueError") hm ha (pe_bltn hg2 g2 (by decide +kernel) (v := .ty "ValueError") rfl (by decide) (by decide)) (fun u r => r) F.kitVE hg hs hs2 hpl
end
end Ow
namespace Ow
open PySem PySem.Spec PySem.SeqAt PyProof.Rows L2
theorem rpl_ints {K : PySem.W.Frag} {cl : CE} {H : Hp} : ∀ ns : List Int, RpL K cl H (ns.map V.int) (ns.map D.int) []
 | [] => .nil
 | n :: ns => .cons (.int n) (rpl_ints ns)
end Ow
namespace Ow
open PySem PySem.Spec PySem.SeqAt PyProof.Rows L2
theorem hu64 {k : Nat} {A : Around} (h : Room k A) : A.units + 64 < cLine := h.units
structure Fax (fa : List He.Fa) (fn : List He.DefD) (K : PySem.W.Frag) (mg : Str → Option Value) : Prop where
 s : He.SaysD fa fn K
 x : ExFx K mg
 glo : ∀ (i : Nat) {x : Str}, fa[i]? = some (.glo x) → mg x = some (.ref (He.ga K x))
 free : ∀ (i : Nat) {x : Str}, fa[i]? = some (.free x) → mg x = none
structure Fnc (P : Program) (w : World) (K : PySem.W.Frag) (mg : Str → Option Value) (base : Heap) (x : Str) (lv np : Nat) (io : List Nat) (own : Ret) (Fd : List D → FR) : Prop where
 ex : ∃ f fd ps, FnOk P w K mg base (L2N.CX P w) lv f fd ps (spD K (clM mg) np io [] own Fd) ∧ mg x = some (.ref f) ∧ PySem.W.keepIn K (.ref f) = true ∧ Binds K fd ps []
section
variable {X : Cx} {W : WX} {Z : SC} {Γx Γ Γ' Γ1 Γ2 : Ctx} {n lv np : Nat} {m m1 m2 : List Nat} {ks : List AK} {rs io xs : List Nat} {own : Ret} {Fd : List D → FR} {x : Str} {p pos : Pos} {e : Expr} {es : List Expr} {gs : List D → ER (List D)} {pp : Addr × Obj}
theorem ej_callC (F : Fnc X.prog X.w X.K X.mg X.base x lv np io own Fd) (hc : X.calm = true) (hr : Room lv X.A) (tk : L2N.Takes X W)
 (ha : AJ X W Γx Γ n m (e :: es) gs ks) (c : CallOk Γ Γx n np io [] own ks rs) (hg : Gl X x := by rfl) (hdb : (x == ("__debug__" : Str)) = false := by decide) (he : starEach (e :: es) X.env = (false, eval e X.env) :: starEach es X.env := by rfl) (hpl : (backTo pos (starEach es X.env)).any (·.1) = false := by rfl) :
 EJ X W Γx Γ n (m ++ rs) (.Call (.Name x p) (e :: es) [] pos) (eCall Fd rs gs) (callK own ks) := by
 obtain ⟨f, fd, ps, h1, h2, h3, h4⟩ := F.ex
 exact ej_call h1 hc hr h2 h3 h4 tk ha c hg hdb he hpl
theorem sj_pre {st : Stmt} {G : List D → SO} (h : SJ X W Z Γ1 Γ2 n m st G) (l : leC Γ Γ1 = true := by decide) (g : gok Γ1 n = true := by decide) : SJ X W Z Γ Γ2 n m st G := ps_imp h fun E σ H hh => by
 obtain ⟨σD, lab, fx, g0, s, po⟩ := hh
 exact ⟨σD, lab, fx, g, ⟨s.s.weak l, s.f⟩, po⟩
def sUnp (T : Tg) (g : List D → ER D) : List D → SO := sOf g fun d σ => match bindT T d σ with
 | some σ1 => .nxt σ1
 | none => .stuck
theorem sj_unp {tg : Expr} {T : Tg} {g : List D → ER D} {R : List Lab} (he : EJ X W Z.Γx Γ n m e g (.bor R)) (hg : PG X tg (tgR X.K T)) (hR : R.all (keepL [] n) = true := by decide) (ht : tgOk T X.N.length Z.io = true := by rfl)
 (hs : swapsWithSole [tg] e pos.line X.env = pure false := by rfl) (hw : swappedStores [tg] e X.env = pure none := by rfl) (h1 : (assignEach [tg] X.env).map (·.2) = [assign tg X.env] := by rfl) :
 SJ X W Z Γ (tgC Γ T R) n (m ++ T.slots) (.Assign [tg] e pos) (sUnp T g) := by
 refine ps_imp (ps_asg he hg hs hw h1) fun E σ H hh => ?_
 obtain ⟨σD, lab, fx, g0, s, po⟩ := hh
 refine sof_imp (fun _ _ _ q => q) g0 s po fun d σD1 v H1 lab1 s1 p1 r1 po1 => ?_
 have hts : ∀ i ∈ T.slots, i < X.N.length ∧ i ∉ Z.io := fun i hi => by
  have := List.all_eq_true.mp ht i hi
  simpa using this
 cases eb : bindT T d σD1 with
 | none => rw [eb] at po1; exact po1.elim
 | some σD2 =>
  rw [eb] at po1
  exact tg_ok s1 g0 hR hts r1 eb fun σ3 lab3 s3 g3 p3 => po1 σ3 H1 lab3 s3 p3
end
section
variable {P : Program} {w : World} {K : PySem.W.Frag} {mg : Str → Option Value} {base : Heap}
theorem fnc_of {fa : List He.Fa} {fn : List He.DefD} (c : Fax fa fn K mg) (i j : Nat) {x : Str} {params : Arguments} {body : List Stmt} {scope : Scope} {N ps : List Str} {lv np nl : Nat} {io m : List Nat} {own : Ret} {G : List D → SO} {Γ' : Ctx}
 (hd : fn[i]? = some ⟨(x, none), x, x, params, body, scope, [], []⟩) (hj : fa[j]? = some (.glo x)) (S : FnScope N ps scope) (hnp : ps.length = np) (hnl : N.length = nl) (hio : io.all (fun i => decide (i < np)) = true) (hpn : np ≤ nl) (hl : leC Γ' (ctxIo nl io) = true)
 (hbd : ∀ (kV doc pm : Value) (an : Option Addr) (cdv ct : Value) (us : List Value), us.length = ps.length → bindArgs (PySem.W.fnOf x x params body scope .none kV doc pm an cdv ct) ⟨us, []⟩ = pure (ps.zip us))
 (hb : ∀ (cdv : Value) (A : Around) (outer : List Env) (s : Shared) (H : Hp) (E : XK), Room lv (A.deeper (envOfC x scope s.heap.objs.size (He.fAd K (x, none)) cdv)) →
  BJ (cxOf (L2N.CX P w) P w K mg base N x scope (He.fAd K (x, none)) cdv A outer s H E) (wOf E) (scOf nl io own) (ctx0 np nl io [] own) Γ' 0 m body G) :
 Fnc P w K mg base x (lv + 1) np io own (fnD nl io G) := by
 obtain ⟨fd, F⟩ := c.s.def_ i hd
 exact ⟨He.fAd K (x, none), fd, ps, okF F S hnp hnl hio hpn hl hb, c.glo j hj, F.kp, FunD.bindsN F hbd⟩
end
section
variable {P : Program} {w : World} {K : PySem.W.Frag} {mg : Str → Option Value}
end
theorem takes_c {P : Program} {w : World} {K : PySem.W.Frag} {mg : Str → Option Value} {base : Heap} {N : List Str} {q : Str} {sc : Scope} {f : Addr} {cdv : Value} {A : Around} {outer : List Env} {s : Shared} {H : Hp} {E : XK} :
 L2N.Takes (cxOf (L2N.CX P w) P w K mg base N q sc f cdv A outer s H E) (wOf E) := L2N.takes_of rfl rfl rfl rfl
theorem passes_c {P : Program} {w : World} {K : PySem.W.Frag} {mg : Str → Option Value} {base : Heap} {N : List Str} {q : Str} {sc : Scope} {f : Addr} {cdv : Value} {A : Around} {outer : List Env} {s : Shared} {H : Hp} {E : XK} :
 PassesOwn (model P w) (cxOf (L2N.CX P w) P w K mg base N q sc f cdv A outer s H E).A (cxOf (L2N.CX P w) P w K mg base N q sc f cdv A outer s H E).env (cxOf (L2N.CX P w) P w K mg base N q sc f cdv A outer s H E).xe := passes_of (X := cxOf (L2N.CX P w) P w K mg base N q sc f cdv A outer s H E) rfl
end Ow
namespace Ow
open PySem PySem.Spec PySem.SeqAt PyProof.Rows L2
end Ow
namespace Ow
open PySem PySem.Spec PyProof.Rows L2
def wipeC (Γ : Ctx) : List Nat → Ctx
 | [] => Γ
 | v :: vs => (wipeC Γ vs).set v none
theorem wipeC_at {Γ : Ctx} {i : Nat} {k : Kd} : ∀ {vs : List Nat}, (wipeC Γ vs)[i]? = some (some k) → Γ[i]? = some (some k) ∧ i ∉ vs
 | [], h => ⟨h, by simp⟩
 | v :: vs, h => by
  unfold wipeC at h
  by_cases hi : v = i
  · subst hi
    by_cases hv : v < (wipeC Γ vs).length
    · rw [List.getElem?_set_self hv] at h; cases h
    · rw [List.getElem?_eq_none (by simpa using hv)] at h; cases h
  · rw [List.getElem?_set_ne hi] at h
    obtain ⟨h1, h2⟩ := wipeC_at h
    exact ⟨h1, by simp only [List.mem_cons, not_or]; exact ⟨fun e => hi e.symm, h2⟩⟩
theorem wipeC_out {Γ : Ctx} {i : Nat} : ∀ {vs : List Nat}, i ∉ vs → (wipeC Γ vs)[i]? = Γ[i]?
 | [], _ => rfl
 | v :: vs, h => by
  simp only [List.mem_cons, not_or] at h
  unfold wipeC
  rw [List.getElem?_set_ne (fun e => h.1 e.symm)]
  exact wipeC_out h.2
theorem wipe_get {σ : St} {i : Nat} : ∀ {vs : List Nat}, i ∉ vs → (wipe σ vs)[i]? = σ[i]?
 | [], _ => rfl
 | v :: vs, h => by
  simp only [List.mem_cons, not_or] at h
  unfold wipe
  rw [List.getElem?_set_ne (fun e => h.1 e.symm)]
  exact wipe_get h.2
theorem wipe_in {σ : St} {i : Nat} : ∀ {vs : List Nat}, i ∈ vs → i < σ.length → (wipe σ vs)[i]? = some none
 | [], h, _ => by simp at h
 | v :: vs, h, hl => by
  unfold wipe
  by_cases e : v = i
  · subst e; rw [List.getElem?_set_self (by rw [wipe_length]; exact hl)]
  · rw [List.getElem?_set_ne e]
    exact wipe_in ((List.mem_cons.mp h).resolve_left fun z => e z.symm) hl
theorem wipe_eq {σ σ' : St} {vs : List Nat} (hl : σ'.length = σ.length) (h : ∀ i, i ∉ vs → σ'[i]? = σ[i]?) : wipe σ' vs = wipe σ vs := by
 refine List.ext_getElem? fun i => ?_
 by_cases hi : i ∈ vs
 · by_cases z : i < σ.length
   · rw [wipe_in hi z, wipe_in hi (by omega)]
   · rw [List.getElem?_eq_none (by rw [wipe_length]; omega), List.getElem?_eq_none (by rw [wipe_length]; omega)]
 · rw [wipe_get hi, wipe_get hi, h i hi]
theorem wipe_wipe {σ : St} {vs : List Nat} : wipe (wipe σ vs) vs = wipe σ vs := wipe_eq (wipe_length _ _) fun i hi => wipe_get hi
section
variable {X X' : Cx} {W : WX} {Γx Γ Γ' : Ctx} {n : Nat} {m m1 m2 mt me : List Nat} {σ : St} {H : Hp} {lab : Labs} {σD : List D} {pos : Pos} {R R2 : List Lab} {fx : Nat → V} {io vs : List Nat}
theorem SR.wipe (s : SR X Γ σ H lab σD) : SR X (wipeC Γ vs) (wipe σ vs) H lab σD := ⟨by rw [wipe_length]; exact s.l1, s.l2, fun i k e => by
 obtain ⟨e1, ne⟩ := wipeC_at e
 obtain ⟨v, d, a, b, c⟩ := s.at_ i k e1
 exact ⟨v, d, (wipe_get ne).trans a, b, c⟩, s.tb⟩
theorem gok.wipe (g : gok Γ n = true) : gok (wipeC Γ vs) n = true := List.all_eq_true.mpr fun o ho => by
 obtain ⟨i, hi⟩ := List.mem_iff_getElem?.mp ho
 cases o with
 | none => rfl
 | some k => exact gok.at_ g (wipeC_at hi).1
theorem puts_ok' : ∀ (is : List Nat) {vs : List V} {ds : List D} {Γ : Ctx} {σ : St} {lab : Labs} {σD σD' : List D} {R : List Lab} {Q : St → Hp → Prop}, SRx X io fx Γ σ H lab σD → gok Γ n = true → R.all (keepL [] n) = true → (∀ i ∈ is, i < X.N.length ∧ i ∉ io) → vs.length = ds.length →
 (∀ (j : Nat) v d, vs[j]? = some v → ds[j]? = some d → VR X.K (clX X) H lab (.bor R) (.tmp n) v d) → setMany is ds σD = some σD' →
 (∀ σ' lab', SRx X io fx (putsC Γ is R) σ' H lab' σD' → gok (putsC Γ is R) n = true → Pres is n H lab H lab' → σ'.length = σ.length → (∀ i, i ∉ is → σ'[i]? = σ[i]?) → Q σ' H) → tgs is vs σ H Q
 | [], vs, ds, Γ, σ, lab, σD, σD', R, Q, s, g, ok, hi, hl, hv, e, k => by
  cases ds with
  | nil =>
   cases vs with
   | nil => cases e; exact ⟨rfl, k σ lab s g (.refl _ _ _ _) rfl fun _ _ => rfl⟩
   | cons v vs => cases hl
  | cons d ds => cases e
 | i :: is, vs, ds, Γ, σ, lab, σD, σD', R, Q, s, g, ok, hi, hl, hv, e, k => by
  cases ds with
  | nil => cases e
  | cons d ds =>
   cases vs with
   | nil => cases hl
   | cons v vs =>
    have r0 := hv 0 v d rfl rfl
    obtain ⟨h1, h2⟩ := hi i List.mem_cons_self
    refine ⟨v, vs, rfl, puts_ok' is (R := dropL i R) (s.put g h1 h2 r0 ok) (gok_put g ok) (dropL_ok ok) (fun j hj => hi j (List.mem_cons_of_mem _ hj)) (by simpa using hl) (fun j w x a b => ?_) e fun σ' lab' s' g' p l' q' => ?_⟩
    · exact (hv (j + 1) w x (by simpa using a) (by simpa using b)).bor_put ok
    · refine k σ' lab' s' g' (Pres.trans (m1 := [i]) (n1 := n) (m2 := is) (n2 := n) .put p (.of (fun q hq => by simp at hq; simp [hq]) (Nat.le_refl _)) (.of (fun q hq => List.mem_cons_of_mem _ hq) (Nat.le_refl _))) (by rw [l', List.length_set]) fun j hj => ?_
      simp only [List.mem_cons, not_or] at hj
      rw [q' j hj.2, List.getElem?_set_ne (fun z => hj.1 z.symm)]
theorem tg_ok' {T : Tg} {v : V} {d : D} {σD' : List D} {Q : St → Hp → Prop} (s : SRx X io fx Γ σ H lab σD) (g : gok Γ n = true) (ok : R.all (keepL [] n) = true) (hi : ∀ i ∈ T.slots, i < X.N.length ∧ i ∉ io) (r : VR X.K (clX X) H lab (.bor R) (.tmp n) v d) (e : bindT T d σD = some σD')
 (k : ∀ σ' lab', SRx X io fx (tgC Γ T R) σ' H lab' σD' → gok (tgC Γ T R) n = true → Pres T.slots n H lab H lab' → σ'.length = σ.length → (∀ i, i ∉ T.slots → σ'[i]? = σ[i]?) → Q σ' H) : tgR X.K T v σ H Q := by
 cases T with
 | nm i =>
  cases e
  obtain ⟨h1, h2⟩ := hi i List.mem_cons_self
  exact k _ _ (s.put g h1 h2 r ok) (gok_put g ok) .put (by rw [List.length_set]) fun j hj => List.getElem?_set_ne fun z => hj (by rw [← z]; exact List.mem_cons_self)
 | tp is =>
  cases d with
  | tup ds =>
   obtain ⟨fp, rp, l⟩ := r
   cases rp with
   | tup h rl =>
    rename_i a vs
    have hlen : ∀ (is : List Nat) (ds σ0 σ1 : List D), setMany is ds σ0 = some σ1 → ds.length = is.length := by
     intro is
     induction is with
     | nil => intro ds σ0 σ1 e; cases ds with | nil => rfl | cons _ _ => cases e
     | cons i is ih => intro ds σ0 σ1 e; cases ds with | nil => cases e | cons d ds => simp [ih ds _ _ e]
    refine ⟨a, vs, rfl, h, by rw [rl.len, hlen is ds _ _ e], puts_ok' is s g ok hi rl.len (fun j v x a b => ?_) e k⟩
    obtain ⟨w, f, e1, e2, e3⟩ := rl.get b
    rw [a] at e1
    cases e1
    exact ⟨f, e2, fun y hy => l y (e3.subset hy)⟩
  | _ => cases e
abbrev WF : WX := fun _ _ _ _ => False
theorem rdE_like (L : Like X X') {k : Kd} {g : List D → ER D} (hn : noX Γ = true) (hk : ∀ R, k ≠ .exc R) {Q : VK} (h : rdE X WF [] Γ n m k g σ H Q) : rdE X' WF [] Γ n m k g σ H Q := by
 obtain ⟨σD, lab, g0, s, po⟩ := h
 refine ⟨σD, lab, g0, s.like L hn, ?_⟩
 cases e : g σD with
 | stuck => rw [e] at po; exact po
 | ok a σ1 =>
  rw [e] at po
  exact fun b H' lab' s' p' r' => po b H' lab' (s'.like L.symm hn) p' (L.symm.vr r' hk)
 | exc c p σ1 =>
  rw [e] at po
  exact fun H' lab' C dd hc s' p' py => po H' lab' C dd (by rw [← L.mg]; exact hc) (s'.like L.symm rfl) p' (py.like L.symm)
theorem rdT_like (L : Like X X') {g : List D → ER Bool} (hn : noX Γ = true) {Q : Bool → Hp → Prop} (h : rdT X WF [] Γ n m g σ H Q) : rdT X' WF [] Γ n m g σ H Q := by
 obtain ⟨σD, lab, g0, s, po⟩ := h
 refine ⟨σD, lab, g0, s.like L hn, ?_⟩
 cases e : g σD with
 | stuck => rw [e] at po; exact po
 | ok a σ1 =>
  rw [e] at po
  exact fun b H' lab' s' p' r' => po b H' lab' (s'.like L.symm hn) p' r'
 | exc c p σ1 =>
  rw [e] at po
  exact fun H' lab' C dd hc s' p' py => po H' lab' C dd (by rw [← L.mg]; exact hc) (s'.like L.symm rfl) p' (py.like L.symm)
def PTsJ (X : Cx) (Γ : Ctx) (n : Nat) (m : List Nat) (ifs : List Expr) (g : List D → ER Bool) : Prop := PTs X ifs (rdT X WF [] Γ n m g)
def tYesD : List D → ER Bool := fun σ => .ok true σ
theorem ptj_nil : PTsJ X Γ n [] [] tYesD := ⟨fun pins s σ H Q I h => pts_nil.run pins s σ H Q I (by
 obtain ⟨σD, lab, g0, sr, po⟩ := h
 exact po true H lab sr (.refl _ _ _ _) rfl)⟩
def lcL (T : Tg) (gt : List D → ER Bool) (ge : List D → ER D) : List D → List D → List D → ER (List D)
 | [], acc, σ => .ok acc σ
 | d :: ds, acc, σ => match bindT T d σ with
  | none => .stuck
  | some σ1 => match gt σ1 with
   | .ok b σ2 => if b = true then (match ge σ2 with
    | .ok v σ3 => lcL T gt ge ds (acc ++ [v]) σ3
    | _ => .stuck) else lcL T gt ge ds acc σ2
   | _ => .stuck
def restV (vr : List Nat) (σ1 σ2 : List D) : List D := vr.foldr (fun i s => s.set i (σ1.getD i .non)) σ2
def eLc (T : Tg) (vr : List Nat) (gi : List D → ER (List D)) (gt : List D → ER Bool) (ge : List D → ER D) : List D → ER D := fun σ => (gi σ).bind fun ds σ1 =>
 if ds.length ≤ sizeLine ∧ vr.all (fun i => (σ1.getD i .non).flat) = true then (match lcL T gt ge ds [] σ1 with
  | .ok acc σ2 => .ok (.lst acc) (restV vr σ1 σ2)
  | _ => .stuck) else .stuck
theorem restV_len {σ1 σ2 : List D} : ∀ {vr : List Nat}, (restV vr σ1 σ2).length = σ2.length
 | [] => rfl
 | v :: vr => by
  show ((restV vr σ1 σ2).set v _).length = _
  rw [List.length_set]; exact restV_len
theorem restV_out {σ1 σ2 : List D} {i : Nat} : ∀ {vr : List Nat}, i ∉ vr → (restV vr σ1 σ2)[i]? = σ2[i]?
 | [], _ => rfl
 | v :: vr, h => by
  simp only [List.mem_cons, not_or] at h
  show ((restV vr σ1 σ2).set v _)[i]? = _
  rw [List.getElem?_set_ne (fun z => h.1 z.symm)]; exact restV_out h.2
theorem restV_in {σ1 σ2 : List D} {i : Nat} : ∀ {vr : List Nat}, i ∈ vr → i < σ2.length → (restV vr σ1 σ2)[i]? = some (σ1.getD i .non)
 | [], h, _ => by simp at h
 | v :: vr, h, hl => by
  show ((restV vr σ1 σ2).set v _)[i]? = _
  by_cases e : v = i
  · subst e; rw [List.getElem?_set_self (by rw [restV_len]; exact hl)]
  · rw [List.getElem?_set_ne e]
    exact restV_in ((List.mem_cons.mp h).resolve_left fun z => e z.symm) hl
def vrOk (Γ : Ctx) (vs vr : List Nat) : Bool := (vr.all (vs.contains ·)) && vs.all fun i => match Γ[i]? with
 | some (some .own) => vr.contains i
 | some (some _) => false
 | _ => !vr.contains i
def lstK : Kd → Kd
 | .own => .own
 | .bor R => .spn R
 | .spn R => .spn R
 | .exc R => .spn R
def okEl : Kd → Bool
 | .own => true
 | .bor _ => true
 | _ => false
theorem VR.app {K : PySem.W.Frag} {cl : CE} {k : Kd} {a : Addr} {ds : List D} {v : V} {d : D} (hk : okEl k = true) (h : VR K cl H lab (lstK k) (.tmp (n + 1)) (.ref a) (.lst ds)) (r : VR K cl H lab k (.tmp (n + 2)) v d) (ok : okK [] (n + 1) k = true) :
 ∃ acc, H a = some (.lst acc) ∧ acc.length = ds.length ∧ lab a = .tmp (n + 1) ∧ ∃ lab', (∀ m, Pres m (n + 1) H lab (upd H a (.lst (acc ++ [v]))) lab') ∧ VR K cl (upd H a (.lst (acc ++ [v]))) lab' (lstK k) (.tmp (n + 1)) (.ref a) (.lst (ds ++ [d])) := by
 cases k with
 | own =>
  obtain ⟨fp, rp, nd, l⟩ := h
  cases rp with
  | lst ha rl =>
   rename_i acc fp
   obtain ⟨fq, rq, nq, lq⟩ := r
   rw [List.nodup_cons] at nd
   have la : lab a = .tmp (n + 1) := l a List.mem_cons_self
   have dj : ∀ b ∈ fq, b ∉ a :: fp := fun b hb z => by
    have e1 := lq b hb
    have e2 := l b z
    rw [e1] at e2
    cases e2
   have da : a ∉ fq := fun z => dj a z List.mem_cons_self
   refine ⟨acc, ha, rl.len, la, fun b => if lab b = .tmp (n + 2) then .tmp (n + 1) else lab b, fun m => ?_, ?_⟩
   · refine Pres.trans (m1 := m) (n1 := n + 1) (m2 := m) (n2 := n + 1) (Pres.mut (m := m) (n := n + 1) ha True.intro (by rw [la]; simp [keepL])) (.relab (fun b hb => ?_) fun b hb => ?_) (SubK.refl _ _) (SubK.refl _ _)
     · exact if_neg fun z => by rw [z] at hb; simp [keepL] at hb
     · by_cases z : lab b = .tmp (n + 2)
       · rw [if_pos z] at hb; cases hb
       · rw [if_neg z]
   · have r1 := rl.disj (o := .lst (acc ++ [v])) (fun z => nd.1 z) ⟨_, ha, True.intro⟩
     have r2 := rq.disj (o := .lst (acc ++ [v])) da ⟨_, ha, True.intro⟩
     refine ⟨a :: (fp ++ fq), .lst (upd_same ..) (r1.append (RpL.one r2)), ?_, fun b hb => ?_⟩
     · rw [List.nodup_cons, List.nodup_append, List.mem_append]
       exact ⟨fun z => z.elim nd.1 da, nd.2, nq, fun x hx y hy e => dj y hy (e ▸ List.mem_cons_of_mem _ hx)⟩
     · dsimp only
       by_cases z : lab b = .tmp (n + 2)
       · rw [if_pos z]
       · rw [if_neg z]
         rcases List.mem_cons.mp hb with q | q
         · rw [q]; exact la
         · rcases List.mem_append.mp q with q | q
           · exact l b (List.mem_cons_of_mem _ q)
           · exact absurd (lq b q) z
 | bor R =>
  obtain ⟨a', acc, ds', fp, ea, ed, ha, rl, la, l⟩ := h
  cases ea; cases ed
  obtain ⟨fq, rq, lq⟩ := r
  have da : ∀ b ∈ fq, b ≠ a := fun b hb z => by
   have e1 := lq b hb
   rw [z, la] at e1
   rcases e1 with e1 | e1
   · cases e1
   · have := List.all_eq_true.mp ok _ e1
     simp [keepL] at this
  refine ⟨acc, ha, rl.len, la, lab, fun m => .mut ha True.intro (by rw [la]; simp [keepL]), ?_⟩
  have r1 := rl.disj (o := .lst (acc ++ [v])) (fun z => (l a z).1 rfl) ⟨_, ha, True.intro⟩
  have r2 := rq.disj (o := .lst (acc ++ [v])) (fun z => da a z rfl) ⟨_, ha, True.intro⟩
  exact ⟨a, _, _, fp ++ fq, rfl, rfl, upd_same .., r1.append (RpL.one r2), la, fun b hb => (List.mem_append.mp hb).elim (l b) fun q => ⟨da b q, lq b q⟩⟩
 | _ => cases hk
theorem okK_lst {k : Kd} (h : okK m n k = true) : okK m n (lstK k) = true := by cases k <;> exact h
theorem VR.newL {K : PySem.W.Frag} {cl : CE} {k : Kd} {a : Addr} {t : Lab} (h : H a = some (.lst [])) (l : lab a = t) : VR K cl H lab (lstK k) t (.ref a) (.lst []) := by
 cases k with
 | own => exact ⟨[a], .lst h .nil, by simp, fun b hb => by rw [List.mem_singleton.mp hb]; exact l⟩
 | _ => exact ⟨a, [], [], [], rfl, rfl, h, .nil, l, by simp⟩
theorem VR.colT' {K : PySem.W.Frag} {cl : CE} {k : Kd} {v : V} {d : D} (h : VR K cl H lab (lstK k) (.tmp (n + 1)) v d) (ok : okK [] n k = true) : VR K cl H (colT n lab) (lstK k) (.tmp n) v d := by
 have kb : ∀ {R : List Lab} {b : Addr}, R.all (keepL [] n) = true → bw R (lab b) → bw R (colT n lab b) := fun hR hb => by
  rw [colT_keep (m := []) (bw_keep hR hb)]; exact hb
 have e1 : ∀ {b : Addr}, lab b = .tmp (n + 1) → colT n lab b = .tmp n := fun e => colT_tmp e (by omega)
 cases k with
 | own =>
  obtain ⟨fp, r, nd, l⟩ := h
  exact ⟨fp, r, nd, fun a ha => e1 (l a ha)⟩
 | bor R =>
  obtain ⟨a, vs, ds, fp, rfl, rfl, ha, r, la, l⟩ := h
  exact ⟨a, vs, ds, fp, rfl, rfl, ha, r, e1 la, fun b hb => ⟨(l b hb).1, kb ok (l b hb).2⟩⟩
 | spn R =>
  obtain ⟨a, vs, ds, fp, rfl, rfl, ha, r, la, l⟩ := h
  exact ⟨a, vs, ds, fp, rfl, rfl, ha, r, e1 la, fun b hb => ⟨(l b hb).1, kb ok (l b hb).2⟩⟩
 | exc R =>
  obtain ⟨a, vs, ds, fp, rfl, rfl, ha, r, la, l⟩ := h
  exact ⟨a, vs, ds, fp, rfl, rfl, ha, r, e1 la, fun b hb => ⟨(l b hb).1, kb ok (l b hb).2⟩⟩
theorem lc_imp {T : Tg} {vr : List Nat} {gi : List D → ER (List D)} {gt : List D → ER Bool} {ge : List D → ER D} {k : Kd} {Q : VK} (hk : okEl k = true) (hv : vrOk Γ vs vr = true) (hT : T.slots.all (fun i => vs.contains i && decide (i < X.N.length)) = true) (hR : R.all (keepL (T.slots ++ (mt ++ me)) (n + 1)) = true)
 (ok : okK (T.slots ++ (mt ++ me)) n k = true) (hle : leC Γ' (wipeC Γ vs) = true) (hle2 : leC (tgC (wipeC Γ vs) T R) Γ' = true) (gb : gok Γ' (n + 2) = true) (h : rdE X W Γx Γ n (m1 ++ (T.slots ++ (mt ++ me))) (lstK k) (eLc T vr gi gt ge) σ H Q) :
 tLc (rdI X W Γx Γ n m1 R gi) (tgR X.K T) (rdT X WF [] Γ' (n + 2) mt gt) (rdE X WF [] Γ' (n + 2) me k ge) vs σ H Q := by
 obtain ⟨σD, lab, g0, s, po⟩ := h
 refine ⟨σD, lab, g0, s, po.seq' fun ds σ1 J H1 lab1 s1 p1 it po1 => ?_⟩
 have it : IterOk X n R J ds H1 lab1 := it
 have hc : ds.length ≤ sizeLine ∧ vr.all (fun i => (σ1.getD i .non).flat) = true := by
  refine Decidable.byContradiction fun hc => ?_
  rw [if_neg hc] at po1; exact po1.elim
 rw [if_pos hc] at po1
 cases e : lcL T gt ge ds [] σ1 with
 | stuck => rw [e] at po1; exact po1.elim
 | exc _ _ _ => rw [e] at po1; exact po1.elim
 | ok accF σF =>
 rw [e] at po1
 intro A hA
 have sub1 : SubK (T.slots ++ (mt ++ me)) (n + 1) T.slots (n + 2) := (SubK.left _ _ _).trans (SubK.up _ _)
 have subt : SubK (T.slots ++ (mt ++ me)) (n + 1) mt (n + 2) := ((SubK.right _ _ _).trans (SubK.left _ _ _)).trans (SubK.up _ _)
 have sube : SubK (T.slots ++ (mt ++ me)) (n + 1) me (n + 2) := ((SubK.right _ _ _).trans (SubK.right _ _ _)).trans (SubK.up _ _)
 have kup : ∀ {M : List Nat} {q : Nat} {l : Lab}, keepL M q l = true → keepL [] q l = true := fun {M q l} z => by
  cases l <;> simp_all [keepL]
 have R1 : R.all (keepL [] (n + 1)) = true := List.all_eq_true.mpr fun l hl => kup (List.all_eq_true.mp hR l hl)
 have R2 : R.all (keepL [] (n + 2)) = true := List.all_eq_true.mpr fun l hl => keepL.up (List.all_eq_true.mp R1 l hl)
 have okup : ∀ {M : List Nat} {q : Nat}, okK M q k = true → okK [] q k = true := fun {M q} z => by
  cases k with
  | own => rfl
  | bor R => exact List.all_eq_true.mpr fun l hl => kup (List.all_eq_true.mp z l hl)
  | spn R => exact List.all_eq_true.mpr fun l hl => kup (List.all_eq_true.mp z l hl)
  | exc R => exact List.all_eq_true.mpr fun l hl => kup (List.all_eq_true.mp z l hl)
 have gw1 : gok (wipeC Γ vs) (n + 1) = true := gok.up (gok.wipe g0)
 have gw2 : gok (wipeC Γ vs) (n + 2) = true := gok.up gw1
 have hvs : ∀ i, i ∈ T.slots → i ∈ vs ∧ i < X.N.length := fun i hi => by
  have := List.all_eq_true.mp hT i hi
  simpa using this
 -- what the list at A is, when others are left
 have kA : ∀ {M : List Nat} {H2 H3 : Hp} {lab2 lab3 : Labs} {xs : List D}, Pres M (n + 2) H2 lab2 H3 lab3 → okK M (n + 2) k = true → VR X.K (clX X) H2 lab2 (lstK k) (.tmp (n + 1)) (.ref A) (.lst xs) → VR X.K (clX X) H3 lab3 (lstK k) (.tmp (n + 1)) (.ref A) (.lst xs) := fun p q v => v.pres p (okK_lst q) (by simp [keepL])
 have okM : ∀ {M : List Nat}, (∀ i ∈ M, i ∈ T.slots ++ (mt ++ me)) → okK M (n + 2) k = true := fun {M} hM => by
  have key : ∀ {l : Lab}, keepL (T.slots ++ (mt ++ me)) n l = true → keepL M (n + 2) l = true := fun {l} z => by
   have := (SubK.of hM (Nat.le_refl n)) l z
   exact keepL.up (keepL.up this)
  cases k with
  | own => rfl
  | bor R => exact List.all_eq_true.mpr fun l hl => key (List.all_eq_true.mp ok l hl)
  | spn R => exact List.all_eq_true.mpr fun l hl => key (List.all_eq_true.mp ok l hl)
  | exc R => exact List.all_eq_true.mpr fun l hl => key (List.all_eq_true.mp ok l hl)
 let St' : Nat → Hp → Prop := fun i H => ∃ σD' lab' accD, VR X.K (clX X) H lab' (lstK k) (.tmp (n + 1)) (.ref A) (.lst accD) ∧ accD.length ≤ i ∧ SR X (wipeC Γ vs) (wipe σ vs) H lab' σD' ∧ Pres (T.slots ++ (mt ++ me)) (n + 1) H1 lab1 H lab' ∧ lcL T gt ge (ds.drop i) accD σD' = .ok accF σF
 have pA : Pres [] (n + 1) H1 lab1 (upd H1 A (.lst [])) (setL lab1 A (.tmp (n + 1))) := .alloc hA rfl
 have pA' : Pres (T.slots ++ (mt ++ me)) (n + 1) H1 lab1 (upd H1 A (.lst [])) (setL lab1 A (.tmp (n + 1))) := .alloc hA rfl
 refine ⟨fun i m H => m = ds.length - i ∧ i ≤ ds.length ∧ St' i H, ⟨ds.length, by simp, Nat.zero_le _, σ1, _, [], VR.newL (upd_same ..) (if_pos rfl), Nat.le_refl _, (s1.pres (gok.up g0) pA).wipe, pA', by rw [List.drop_zero]; exact e⟩, ?_⟩
 rintro i m H2 ⟨rfl, hi, σ2, lab2, acc, vA, hacc, s2, p2, el⟩
 obtain ⟨hstop, hgo⟩ := it _ H2 lab2 p2 hR i hi
 by_cases hlt : i < ds.length
 · obtain ⟨go, hy⟩ := hgo ds[i] (List.getElem?_eq_getElem hlt)
   refine .inr ⟨go, St' (i + 1), fun H' q => ⟨ds.length - (i + 1), by omega, rfl, hlt, q⟩, fun x H3 hx => ?_⟩
   obtain ⟨lab3, p3, r3⟩ := hy x H3 hx
   rw [List.drop_eq_getElem_cons hlt, lcL] at el
   have vA3 := kA (p3 [] _) (okM (by simp)) vA
   have s3 : SR X (wipeC Γ vs) (wipe σ vs) H3 lab3 σ2 := s2.pres gw1 (p3 _ _)
   have q3 : Pres (T.slots ++ (mt ++ me)) (n + 1) H1 lab1 H3 lab3 := p2.trans (p3 _ _) (SubK.refl _ _) (SubK.refl _ _)
   cases eb : bindT T ds[i] σ2 with
   | none => rw [eb] at el; cases el
   | some σ3 =>
    rw [eb] at el
    dsimp only at el
    have r3' : VR X.K (clX X) H3 lab3 (.bor R) (.tmp (n + 2)) x ds[i] := r3
    refine tg_ok' (io := []) (fx := fun _ => .non) ⟨s3, by simp⟩ gw2 R2 (fun i hi => ⟨(hvs i hi).2, by simp⟩) r3' eb fun σ4 lab4 s4 g4 p4 hl4 hq4 => ?_
    have hw : wipe σ4 vs = wipe σ vs := by
     rw [← wipe_wipe (σ := σ)]
     exact wipe_eq hl4 fun j hj => hq4 j fun z => hj (hvs j z).1
    refine ⟨hw, ?_⟩
    have vA4 := kA p4 (okM fun j hj => List.mem_append_left _ hj) vA3
    have q4 : Pres (T.slots ++ (mt ++ me)) (n + 1) H1 lab1 H3 lab4 := q3.trans p4 (SubK.refl _ _) sub1
    refine ⟨σ3, lab4, gb, s4.s.weak hle2, ?_⟩
    cases et : gt σ3 with
    | stuck => rw [et] at el; cases el
    | exc _ _ _ => rw [et] at el; cases el
    | ok b σ5 =>
     rw [et] at el
     dsimp only at el
     intro b' H5 lab5 s5 p5 eb'
     have eb' : b' = b := eb'
     subst eb'
     have vA5 := kA p5 (okM fun j hj => by simp [hj]) vA4
     have q5 : Pres (T.slots ++ (mt ++ me)) (n + 1) H1 lab1 H5 lab5 := q4.trans p5 (SubK.refl _ _) subt
     have back : ∀ {H6 : Hp} {lab6 : Labs} {σ6 : List D}, SR X Γ' σ4 H6 lab6 σ6 → SR X (wipeC Γ vs) (wipe σ vs) H6 lab6 σ6 := fun {H6 lab6 σ6} sz => by
      have w := (sz.weak hle).wipe (vs := vs)
      have ew : wipeC (wipeC Γ vs) vs = wipeC (wipeC Γ vs) vs := rfl
      rw [hw] at w
      refine ⟨w.l1, w.l2, fun j kk hj => ?_, w.tb⟩
      refine w.at_ j kk ?_
      rw [wipeC_out (wipeC_at hj).2]
      exact hj
     cases b' with
     | false =>
      rw [if_neg (by decide)] at el ⊢
      exact ⟨σ5, lab5, acc, vA5, Nat.le_succ_of_le hacc, back s5, q5, el⟩
     | true =>
      rw [if_pos rfl] at el ⊢
      refine ⟨σ5, lab5, gb, s5, ?_⟩
      cases ee : ge σ5 with
      | stuck => rw [ee] at el; cases el
      | exc _ _ _ => rw [ee] at el; cases el
      | ok d σ6 =>
       rw [ee] at el
       dsimp only at el
       intro v H6 lab6 s6 p6 r6
       have r6 : VR X.K (clX X) H6 lab6 k (.tmp (n + 2)) v d := r6
       have vA6 := kA p6 (okM fun j hj => by simp [hj]) vA5
       have q6 : Pres (T.slots ++ (mt ++ me)) (n + 1) H1 lab1 H6 lab6 := q5.trans p6 (SubK.refl _ _) sube
       obtain ⟨xs, hx6, hxl, la, lab7, p7, v7⟩ := VR.app hk vA6 r6 (okup (okK.up ok))
       exact ⟨xs, hx6, by omega, σ6, lab7, _, v7, by rw [List.length_append]; simp; omega, (back s6).pres gw1 (p7 []), q6.trans (p7 _) (SubK.refl _ _) (SubK.refl _ _), el⟩
 · have ei : i = ds.length := by omega
   refine .inl ⟨hstop ei, ?_⟩
   rw [ei, List.drop_length] at el
   cases el
   refine po1 (.ref A) H2 (colT n lab2) ?_ ((p2.mono (SubK.up _ _)).trans .colT (SubK.refl _ _) (SubK.refl _ _)) (vA.colT' (okup ok))
   refine ⟨s1.l1, by rw [restV_len]; exact s2.l2, fun j kj hj => ?_, (s2.tb.pres (.colT (m := []) (n := n)))⟩
   have hz := List.all_eq_true.mp (Bool.and_eq_true_iff.mp hv).2
   have hr := List.all_eq_true.mp (Bool.and_eq_true_iff.mp hv).1
   by_cases jv : j ∈ vs
   · have z := hz j jv
     rw [hj] at z
     cases kj with
     | own =>
      have jr : j ∈ vr := by simpa using z
      obtain ⟨v, d, a, b, c⟩ := s1.at_ j .own hj
      have fl := List.all_eq_true.mp hc.2 j jr
      have ed : σ1.getD j .non = d := by rw [List.getD_eq_getElem?_getD, b]; rfl
      rw [ed] at fl
      obtain ⟨fp, rp, nd, _⟩ := c
      have e0 := rp.flat fl
      subst e0
      refine ⟨v, d, a, ?_, .of_nil (rp.ext p2.tk (by simp))⟩
      have hjl : j < σ1.length := (List.getElem?_eq_some_iff.mp b).1
      rw [restV_in jr (by rw [s2.l2, ← s1.l2]; exact hjl), ed]
     | _ => cases z
   · have jr : j ∉ vr := fun z => jv (by simpa using hr j z)
     obtain ⟨v, d, a, b, c⟩ := s2.at_ j kj (by rw [wipeC_out jv]; exact hj)
     refine ⟨v, d, by rw [← wipe_get jv]; exact a, by rw [restV_out jr]; exact b, ?_⟩
     exact c.pres (m := []) (n := n) .colT (gok.at_ g0 hj) rfl
end
section
variable {X : Cx} {W : WX} {Z : SC} {Γx Γ Γ' : Ctx} {n : Nat} {m1 mt me : List Nat} {pos spos py : Pos} {R : List Lab} {k : Kd} {elt tg iter : Expr} {ifs : List Expr} {scope : Scope} {own : List (Str × Nat)} {T : Tg} {vr : List Nat} {gi : List D → ER (List D)} {gt : List D → ER Bool} {ge : List D → ER D}
structure LcOk (Γ Γ' : Ctx) (n : Nat) (T : Tg) (vs vr mt me : List Nat) (R : List Lab) (k : Kd) : Prop where
 hk : okEl k = true
 v : vrOk Γ vs vr = true
 hR : R.all (keepL (T.slots ++ (mt ++ me)) (n + 1)) = true
 ok : okK (T.slots ++ (mt ++ me)) n k = true
 l1 : leC Γ' (wipeC Γ vs) = true
 l2 : leC (tgC (wipeC Γ vs) T R) Γ' = true
 g : gok Γ' (n + 2) = true
 nx : noX Γ' = true
abbrev blkX (X : Cx) (scope : Scope) (s : Shared) (H : Hp) (C : Addr) (cl : List (Str × Addr)) (fp : List Addr) : Cx := X.blk s H scope (compEnvC scope cl C X.env) fp
theorem ej_lc (hc : X.calm = true) (hN : X.N.Nodup) (hi : IJ X W Γx Γ n m1 tg iter gi R) (ok : BlkOk X.N X.env.scope scope own)
 (hg : ∀ (s : Shared) (H : Hp) (C : Addr) (cl : List (Str × Addr)) (fp : List Addr), PG (blkX X scope s H C cl fp) tg (tgR X.K T)) (ht : ∀ (s : Shared) (H : Hp) (C : Addr) (cl : List (Str × Addr)) (fp : List Addr), PTsJ (blkX X scope s H C cl fp) Γ' (n + 2) mt ifs gt)
 (he : ∀ (s : Shared) (H : Hp) (C : Addr) (cl : List (Str × Addr)) (fp : List Addr), EJ (blkX X scope s H C cl fp) WF [] Γ' (n + 2) me elt ge k) (o : LcOk Γ Γ' n T (own.map (·.2)) vr mt me R k)
 (hT : T.slots.all (fun i => (own.map (·.2)).contains i && decide (i < X.N.length)) = true := by rfl) (hs : ∀ x, foldedSetIterable iter X.env x = pure x := by intro _; rfl) :
 EJ X W Γx Γ n (m1 ++ (T.slots ++ (mt ++ me))) (.ListComp elt [⟨tg, iter, ifs, 0⟩] scope pos) (eLc T vr gi gt ge) (lstK k) := by
 have hk : ∀ R, k ≠ .exc R := fun R z => by have := o.hk; rw [z] at this; cases this
 refine pe_imp (pe_lc hc hN hi ok hg (tt := rdT X WF [] Γ' (n + 2) mt gt) (fun s H C cl fp => ⟨fun pins sh σ Hq Q I h => (ht s H C cl fp).run pins sh σ Hq Q I (rdT_like (X := X) (X' := blkX X scope s H C cl fp) ⟨rfl, rfl, rfl⟩ o.nx h)⟩) (te := rdE X WF [] Γ' (n + 2) me k ge) (fun s H C cl fp => pe_imp (he s H C cl fp) fun σ Hq Q h => rdE_like (X := X) (X' := blkX X scope s H C cl fp) ⟨rfl, rfl, rfl⟩ o.nx hk h) hs) fun σ H Q h => ?_
 exact lc_imp o.hk o.v hT o.hR o.ok o.l1 o.l2 o.g h
end
end Ow
namespace Ow
open PySem PySem.Spec PyProof.Rows L2
section
variable {X : Cx} {W : WX} {Γx Γ : Ctx} {n : Nat} {m m1 m2 : List Nat} {H : Hp} {lab : Labs} {pos p : Pos} {R : List Lab} {k k1 : Kd} {ks : List AK} {gs : List D → ER (List D)} {tg e e2 : Expr}
def zipR (n : Nat) (ks : List AK) : List Lab := if (ks.all fun k => match k with | .val (.bor R) => R.all (keepL [] n) | _ => false) then unionR ks else .tmp n :: unionR ks
theorem bw_colT {a : Addr} (h : (∃ j, n ≤ j ∧ lab a = .tmp j) ∨ bw R (lab a)) : bw (.tmp n :: R) (colT n lab a) := by
 by_cases q : ∃ j, n ≤ j ∧ lab a = .tmp j
 · obtain ⟨j, hj, e⟩ := q
   exact .inr (by rw [colT_tmp e hj]; exact List.mem_cons_self)
 · have e : colT n lab a = lab a := by
    unfold colT
    split
    · rename_i j e
      rw [if_neg (fun z => q ⟨j, z, e⟩), e]
    · rfl
   rw [e]
   rcases h with h | h | h
   · exact absurd h q
   · exact .inl h
   · exact .inr (List.mem_cons_of_mem _ h)
theorem AR.bors {σ : St} {σD : List D} : ∀ {ks : List AK} {n q : Nat} {vs : List V} {ds : List D}, AR X σ σD H lab q ks vs ds → (ks.all fun k => match k with | .val (.bor R) => R.all (keepL [] n) | _ => false) = true → ∃ fp, RpL X.K (clX X) H vs ds fp ∧ ∀ a ∈ fp, bw (unionR ks) (colT n lab a)
 | [], _, _, _, _, ⟨e1, e2⟩, _ => by
  subst e1 e2
  exact ⟨[], .nil, by simp⟩
 | .val (.bor R) :: ks, n, q, _, _, ⟨v, vs', d, ds', e1, e2, r, h⟩, o => by
  subst e1 e2
  rw [List.all_cons, Bool.and_eq_true] at o
  obtain ⟨f2, r2, l2⟩ := AR.bors (n := n) h o.2
  obtain ⟨f1, r1, l1⟩ := r
  refine ⟨f1 ++ f2, .cons r1 r2, fun a ha => ?_⟩
  rcases List.mem_append.mp ha with z | z
  · have b := l1 a z
    rw [colT_keep (m := []) (bw_keep o.1 b)]
    exact b.elim .inl fun y => .inr (List.mem_flatMap.mpr ⟨_, List.mem_cons_self, y⟩)
  · exact (l2 a z).elim .inl fun y => .inr (List.mem_flatMap.mpr (by
     obtain ⟨x, hx, e⟩ := List.mem_flatMap.mp y
     exact ⟨x, List.mem_cons_of_mem _ hx, e⟩))
 | .val .own :: ks, _, _, _, _, _, o => by simp at o
 | .val (.spn R) :: ks, _, _, _, _, _, o => by simp at o
 | .val (.exc R) :: ks, _, _, _, _, _, o => by simp at o
 | .slot r :: ks, _, _, _, _, _, o => by simp at o
theorem AR.zipR {σ : St} {σD : List D} {vs : List V} {ds : List D} (h : AR X σ σD H lab n ks vs ds) (hv : ks.all valA = true) : ∃ fp, RpL X.K (clX X) H vs ds fp ∧ ∀ a ∈ fp, bw (zipR n ks) (colT n lab a) := by
 by_cases z : (ks.all fun k => match k with | .val (.bor R) => R.all (keepL [] n) | _ => false) = true
 · obtain ⟨fp, r, l⟩ := h.bors (n := n) z
   exact ⟨fp, r, by unfold Ow.zipR; rw [if_pos z]; exact l⟩
 · obtain ⟨fp, r, l⟩ := h.mix hv
   exact ⟨fp, r, by unfold Ow.zipR; rw [if_neg z]; exact fun a ha => bw_colT (l a ha)⟩
def zipD (xs ys : List D) : List D := List.zipWith (fun x y => .tup [x, y]) xs ys
theorem Rp.keepR {m' : List Nat} {H' : Hp} {lab' : Labs} {v : V} {d : D} {fp : List Addr} (r : Rp X.K (clX X) H v d fp) (l : ∀ a ∈ fp, bw R (lab a)) (p : Pres m' n H lab H' lab') (ok : R.all (keepL m' n) = true) : Rp X.K (clX X) H' v d fp ∧ ∀ a ∈ fp, bw R (lab' a) := by
 have e : ∀ a ∈ fp, H' a = H a ∧ lab' a = lab a := fun a ha => p.keepM (r.alloc a ha) (bw_keep ok (l a ha))
 exact ⟨r.ext p.tk fun a ha => (e a ha).1, fun a ha => by rw [(e a ha).2]; exact l a ha⟩
theorem zip_at {xs ys : List D} {i : Nat} {d : D} (h : (zipD xs ys)[i]? = some d) : ∃ x y, xs[i]? = some x ∧ ys[i]? = some y ∧ d = .tup [x, y] := by
 unfold zipD at h
 rw [List.getElem?_zipWith] at h
 cases e1 : xs[i]? with
 | none => rw [e1] at h; cases h
 | some x => cases e2 : ys[i]? with
  | none => rw [e1, e2] at h; cases h
  | some y => rw [e1, e2] at h; cases h; exact ⟨x, y, rfl, rfl, rfl⟩
theorem pair_new {H' : Hp} {lab' : Labs} {T : Addr} {x y : V} {dx dy : D} {fx fy : List Addr} (hT : H' T = none) (rx : Rp X.K (clX X) H' x dx fx) (ry : Rp X.K (clX X) H' y dy fy) (lx : ∀ a ∈ fx, bw R (lab' a)) (ly : ∀ a ∈ fy, bw R (lab' a)) :
 (∀ m'' n'', Pres m'' n'' H' lab' (upd H' T (.tup [x, y])) (setL lab' T .fro)) ∧ VR X.K (clX X) (upd H' T (.tup [x, y])) (setL lab' T .fro) (.bor R) (.tmp (n + 1)) (.ref T) (.tup [dx, dy]) := by
 refine ⟨fun _ _ => .alloc hT rfl, ?_⟩
 have r := RpL.cons rx (RpL.one ry)
 refine ⟨fx ++ fy, .tup (.of upd_same) (r.ext (TK.new hT) fun a ha => upd_ne fun z => ?_), fun a ha => ?_⟩
 · obtain ⟨o, q, _⟩ := r.alloc a ha
   rw [z, hT] at q; cases q
 · show bw R (if a = T then _ else _)
   by_cases z : a = T
   · rw [if_pos z]; exact .inl rfl
   · rw [if_neg z]; exact (List.mem_append.mp ha).elim (lx a) (ly a)
theorem iter_zip {a b : Addr} {xs ys : List D} {f1 f2 : List Addr} (ra : Rp X.K (clX X) H (.ref a) (.lst xs) f1) (rb : Rp X.K (clX X) H (.ref b) (.lst ys) f2) (la : ∀ z ∈ f1, bw R (lab z)) (lb : ∀ z ∈ f2, bw R (lab z)) : IterOk X n R (Itz X.K a b) (zipD xs ys) H lab := fun m' H' lab' p ok i hi => by
 obtain ⟨ra', la'⟩ := ra.keepR la p ok
 obtain ⟨rb', lb'⟩ := rb.keepR lb p ok
 cases ra' with
 | lst ha r1 =>
 cases rb' with
 | lst hb r2 =>
 rename_i vs g1 ws g2
 refine ⟨fun e => ⟨vs, ws, .of ha, .of hb, ?_⟩, fun d hd => ?_⟩
 · rw [r1.len, r2.len, e]
   unfold zipD
   rw [List.length_zipWith]
   omega
 · obtain ⟨dx, dy, ex, ey, rfl⟩ := zip_at hd
   obtain ⟨x, fx, e1, rx, sx⟩ := r1.get ex
   obtain ⟨y, fy, e2, ry, sy⟩ := r2.get ey
   refine ⟨⟨vs, ws, x, y, .of ha, .of hb, e1, e2⟩, fun v H'' hy => ?_⟩
   obtain ⟨T, x', y', rfl, hT, rfl, hx', hy'⟩ := hy
   have := hx' vs (.of ha); rw [e1] at this; cases this
   have := hy' ws (.of hb); rw [e2] at this; cases this
   obtain ⟨P, V⟩ := pair_new (n := n) hT rx ry (fun z hz => la' z (List.mem_cons_of_mem _ (sx.subset hz))) fun z hz => lb' z (List.mem_cons_of_mem _ (sy.subset hz))
   exact ⟨_, P, V⟩
theorem iter_zipT {a b : Addr} {xs ys : List D} {f1 f2 : List Addr} (ra : Rp X.K (clX X) H (.ref a) (.tup xs) f1) (rb : Rp X.K (clX X) H (.ref b) (.tup ys) f2) (la : ∀ z ∈ f1, bw R (lab z)) (lb : ∀ z ∈ f2, bw R (lab z)) : IterOk X n R (RZ.ItzT X.K a b) (zipD xs ys) H lab := fun m' H' lab' p ok i hi => by
 obtain ⟨ra', la'⟩ := ra.keepR la p ok
 obtain ⟨rb', lb'⟩ := rb.keepR lb p ok
 cases ra' with
 | tup ha r1 =>
 cases rb' with
 | tup hb r2 =>
 rename_i vs ws
 refine ⟨fun e => ⟨vs, ws, ha, hb, ?_⟩, fun d hd => ?_⟩
 · rw [r1.len, r2.len, e]
   unfold zipD
   rw [List.length_zipWith]
   omega
 · obtain ⟨dx, dy, ex, ey, rfl⟩ := zip_at hd
   obtain ⟨x, fx, e1, rx, sx⟩ := r1.get ex
   obtain ⟨y, fy, e2, ry, sy⟩ := r2.get ey
   refine ⟨⟨vs, ws, x, y, ha, hb, e1, e2⟩, fun v H'' hy => ?_⟩
   obtain ⟨T, x', y', rfl, hT, rfl, hx', hy'⟩ := hy
   have := hx' vs ha; rw [e1] at this; cases this
   have := hy' ws hb; rw [e2] at this; cases this
   obtain ⟨P, V⟩ := pair_new (n := n) hT rx ry (fun z hz => la' z (sx.subset hz)) fun z hz => lb' z (sy.subset hz)
   exact ⟨_, P, V⟩
def fZip : List D → Option (List D)
 | [.lst a, .lst b] => some (zipD a b)
 | [.tup a, .tup b] => some (zipD a b)
 | _ => none
def gFun (f : List D → Option (List D)) (gs : List D → ER (List D)) : List D → ER (List D) := fun σ => (gs σ).bind fun ds σ1 => ofO (f ds) σ1
theorem ij_zip {elts : List Expr} {kk : Nat} {tpos : Pos} (hm : X.mg "zip" = none) (ha : AJ X W Γx Γ n m [e, e2] gs ks) (hv : ks.all valA = true := by rfl) (hg : Gl X "zip" := by rfl)
 (hs : starEach [e, e2] X.env = (false, eval e X.env) :: starEach [e2] X.env := by rfl) (hpl : (backTo pos (starEach [e2] X.env)).any (·.1) = false := by rfl) :
 IJ X W Γx Γ n m (.Tuple elts kk tpos) (.Call (.Name "zip" p) [e, e2] [] pos) (gFun fZip gs) (zipR n ks) := by
 refine pi_imp (RZ.pi_zipA hg hm ha hs hpl) fun σ H Q hh => ?_
 obtain ⟨σD, lab, g0, s, po⟩ := hh
 refine ⟨σD, lab, g0, s, po.last fun ds σD1 vs H1 lab1 s1 p1 r1 po1 => ?_⟩
 obtain ⟨z, ez, q⟩ := po1.done
 obtain ⟨fp, rl, ll⟩ := AR.zipR r1 hv
 unfold fZip at ez
 split at ez
 · rename_i a b
   cases ez
   cases rl with
   | cons h1 rl => cases rl with
    | cons h2 rl =>
     cases rl
     rename_i v1 f1 v2 f2
     have la : ∀ z ∈ f1, bw (zipR n ks) (colT n lab1 z) := fun z hz => ll z (List.mem_append_left _ hz)
     have lb : ∀ z ∈ f2, bw (zipR n ks) (colT n lab1 z) := fun z hz => ll z (List.mem_append_right _ (List.mem_append_left _ hz))
     cases h1 with
     | lst hx1 hx2 => cases h2 with
      | lst hy1 hy2 => exact ⟨_, _, _, _, rfl, .inl ⟨.of hx1, .of hy1, q _ H1 _ (s1.pres g0 .colT) .colT (iter_zip (.lst hx1 hx2) (.lst hy1 hy2) la lb)⟩⟩
 · rename_i a b
   cases ez
   cases rl with
   | cons h1 rl => cases rl with
    | cons h2 rl =>
     cases rl
     rename_i v1 f1 v2 f2
     have la : ∀ z ∈ f1, bw (zipR n ks) (colT n lab1 z) := fun z hz => ll z (List.mem_append_left _ hz)
     have lb : ∀ z ∈ f2, bw (zipR n ks) (colT n lab1 z) := fun z hz => ll z (List.mem_append_right _ (List.mem_append_left _ hz))
     cases h1 with
     | tup hx1 hx2 => cases h2 with
      | tup hy1 hy2 => exact ⟨_, _, _, _, rfl, .inr ⟨hx1, hy1, q _ H1 _ (s1.pres g0 .colT) .colT (iter_zipT (.tup hx1 hx2) (.tup hy1 hy2) la lb)⟩⟩
 · cases ez
def enumD (xs : List D) : List D := xs.mapIdx fun i x => .tup [.int i, x]
def fEnum : List D → Option (List D)
 | [.lst a] => some (enumD a)
 | _ => none
def fRev : List D → Option (List D)
 | [.lst a] => some a.reverse
 | _ => none
def isBl : D → Bool
 | .bl _ => true
 | _ => false
def toB : D → Bool
 | .bl b => b
 | _ => false
def fAll : List D → Option D
 | [.lst ds] => if ds.all isBl = true then some (.bl (ds.all toB)) else none
 | _ => none
theorem RpL.bools {K : PySem.W.Frag} {cl : CE} : ∀ {vs : List V} {ds : List D} {fp : List Addr}, RpL K cl H vs ds fp → ds.all isBl = true → ∃ bs : List Bool, vs = bs.map V.bl ∧ ds = bs.map D.bl
 | _, _, _, .nil, _ => ⟨[], rfl, rfl⟩
 | _, _, _, .cons h r, e => by
  rw [List.all_cons, Bool.and_eq_true] at e
  obtain ⟨bs, e1, e2⟩ := RpL.bools r e.2
  cases h with
  | bl b => exact ⟨b :: bs, by rw [e1]; rfl, by rw [e2]; rfl⟩
  | _ => cases e.1
theorem sc_all : ScalCall X fAll (rAll X.K) := fun ds z e => by
 unfold fAll at e
 split at e
 · split at e
   · rename_i hb
     cases e
     refine ⟨_, .bl _, fun H vs fp Q r q => ?_⟩
     obtain ⟨v, f, rfl, rr⟩ := r.one_inv
     cases rr with
     | lst h r =>
      obtain ⟨bs, e1, e2⟩ := r.bools hb
      subst e1 e2
      refine ⟨_, bs, rfl, .of h, ?_⟩
      have : (bs.map D.bl).all toB = bs.all id := by rw [List.all_map]; rfl
      rw [← this]; exact q
   · cases e
 · cases e
theorem ej_all (hc : X.calm = true) (hm : X.mg "all" = none) (ha : AJ X W Γx Γ n m [e] gs ks) (hg : Gl X "all" := by rfl) (ho : ks.all valA = true := by rfl) (he : starEach [e] X.env = [(false, eval e X.env)] := by rfl) : EJ X W Γx Γ n m (.Call (.Name "all" p) [e] [] pos) (eCall1 fAll gs) .own :=
 ej_callB sc_all (cr_all hc) hg hm boot_all ha ho (by decide) (by decide) he rfl
def toI : D → Int
 | .int i => i
 | _ => 0
def isI : D → Bool
 | .int _ => true
 | _ => false
theorem RpL.ints {K : PySem.W.Frag} {cl : CE} : ∀ {vs : List V} {ds : List D} {fp : List Addr}, RpL K cl H vs ds fp → ds.all isI = true → ∃ bs : List Int, vs = bs.map V.int ∧ ds = bs.map D.int
 | _, _, _, .nil, _ => ⟨[], rfl, rfl⟩
 | _, _, _, .cons h r, e => by
  rw [List.all_cons, Bool.and_eq_true] at e
  obtain ⟨bs, e1, e2⟩ := RpL.ints r e.2
  cases h with
  | int b => exact ⟨b :: bs, by rw [e1]; rfl, by rw [e2]; rfl⟩
  | _ => cases e.1
theorem VR.its {k : Kd} {j : Nat} {v : V} {d : D} (h : VR X.K (clX X) H lab k (.tmp j) v d) (hn : d.noE = true) (hj : n ≤ j) : ∃ fp, Rp X.K (clX X) H v d fp ∧ ∀ a ∈ fp, (∃ j, n ≤ j ∧ lab a = .tmp j) ∨ bw (labsK k) (lab a) := by
 cases k with
 | own => obtain ⟨fp, r, _, l⟩ := h; exact ⟨fp, r, fun a ha => .inl ⟨j, hj, l a ha⟩⟩
 | bor R => obtain ⟨fp, r, l⟩ := h; exact ⟨fp, r, fun a ha => .inr (l a ha)⟩
 | spn R =>
  obtain ⟨a, vs, ds, fp, rfl, rfl, ha, r, la, l⟩ := h
  refine ⟨_, .lst ha r, fun b hb => ?_⟩
  rcases List.mem_cons.mp hb with q | q
  · exact .inl ⟨j, hj, by rw [q]; exact la⟩
  · exact .inr (l b q).2
 | exc R => obtain ⟨fp, r, _⟩ := h; cases r <;> cases hn
def fListOf : List D → Option D
 | [.lst ds] => some (.lst ds)
 | [.fzl ds] => some (.lst ds)
 | [.tup ds] => some (.lst ds)
 | _ => none
def fTupOf : List D → Option D
 | [.lst ds] => some (.tup ds)
 | [.tup ds] => some (.tup ds)
 | _ => none
end
end Ow
namespace Ow
open PySem PySem.Spec PyProof.Rows L2
section
variable {X : Cx} {W : WX} {Z : SC} {Γx Γ Γ' : Ctx} {n r : Nat} {m m1 m2 m3 : List Nat} {H : Hp} {lab : Labs} {pos p px apos : Pos} {R : List Lab} {k k1 : Kd} {ks : List AK} {gs : List D → ER (List D)} {tg e e2 a b : Expr} {x : Str} {g ga gb : List D → ER D}
theorem ej_append (hx : PE X (.Name x px) (tVar r)) (ha : AJ X W Γx Γ n m [e] gs ks) (hr : Γ[r]? = some (some .own) := by rfl) (hb : noBor Γ r = true := by decide) (ho : ks.all ownA = true := by rfl)
 (hbase : attributeBase (.Name x px) "append" X.env (eval (.Name x px) X.env) = eval (.Name x px) X.env := by rfl)
 (hfew : ((backTo pos (starEach (e :: []) X.env)).all (fun x => !x.1) && (backToKw pos (keywordEach [] X.env)).all (fun x => x.1.isSome)
  && decide ((e :: ([] : List Expr)).length + ([] : List Keyword).length + (if ([] : List Keyword).isEmpty then 0 else 1) < 30)) = true := by rfl)
 (hline : (apos.endLine == pos.line) = true := by rfl) (hs : starEach (e :: []) X.env = (false, eval e X.env) :: starEach [] X.env := by rfl) (hplain : (backTo pos (starEach [] X.env)).any (·.1) = false := by rfl) :
 EJ X W Γx Γ n (m ++ [r]) (.Call (.Attribute (.Name x px) "append" apos) [e] [] pos) (eMut "list" r mAppend gs) .own :=
 ej_mut mo_append (pe_bm PySem.F.plainAttrs_list PySem.F.slot_list_append PySem.F.type_list_append mt_append hx ha hbase hfew hline hs hplain) hr hb ho
theorem ej_extend (hx : PE X (.Name x px) (tVar r)) (ha : AJ X W Γx Γ n m [e] gs ks) (hr : Γ[r]? = some (some .own) := by rfl) (hb : noBor Γ r = true := by decide) (ho : ks.all ownA = true := by rfl)
 (hbase : attributeBase (.Name x px) "extend" X.env (eval (.Name x px) X.env) = eval (.Name x px) X.env := by rfl)
 (hfew : ((backTo pos (starEach (e :: []) X.env)).all (fun x => !x.1) && (backToKw pos (keywordEach [] X.env)).all (fun x => x.1.isSome)
  && decide ((e :: ([] : List Expr)).length + ([] : List Keyword).length + (if ([] : List Keyword).isEmpty then 0 else 1) < 30)) = true := by rfl)
 (hline : (apos.endLine == pos.line) = true := by rfl) (hs : starEach (e :: []) X.env = (false, eval e X.env) :: starEach [] X.env := by rfl) (hplain : (backTo pos (starEach [] X.env)).any (·.1) = false := by rfl) :
 EJ X W Γx Γ n (m ++ [r]) (.Call (.Attribute (.Name x px) "extend" apos) [e] [] pos) (eMut "list" r mExtend gs) .own :=
 ej_mut mo_extend (pe_bm PySem.F.plainAttrs_list PySem.F.slot_list_extend PySem.F.type_list_extend mt_extend hx ha hbase hfew hline hs hplain) hr hb ho
def cutD (xs : List D) (lo hi : Option Int) : List D := (xs.drop (HT.sIx xs.length 0 lo)).take (HT.sIx xs.length xs.length hi - HT.sIx xs.length 0 lo)
def oNone : List D → ER (Option Int) := fun σ => .ok none σ
def oSome (g : List D → ER D) : List D → ER (Option Int) := fun σ => (g σ).bind fun d σ1 => match d with
 | .int i => .ok (some i) σ1
 | _ => .stuck
def dSlL (d : D) (lo hi : Option Int) : Option D := match d with
 | .lst xs => some (.lst (cutD xs lo hi))
 | .fzl xs => some (.lst (cutD xs lo hi))
 | _ => none
def dSlT (d : D) (lo hi : Option Int) : Option D := match d with
 | .tup xs => some (.tup (cutD xs lo hi))
 | _ => none
def eSl (f : D → Option Int → Option Int → Option D) (g : List D → ER D) (go gh : List D → ER (Option Int)) : List D → ER D := fun σ => (g σ).bind fun d σ1 => (go σ1).bind fun lo σ2 => (gh σ2).bind fun hi σ3 => ofO (f d lo hi) σ3
theorem bj_stuck {sts : List Stmt} : BJ X W Z Γ Γ' n m sts (fun _ => .stuck) := ⟨fun pins s σ H D I h => by
 obtain ⟨σD, lab, fx, g0, s, po⟩ := h
 exact po.elim⟩
end
end Ow
namespace Ow
open PySem PySem.Spec PyProof.Rows L2
mutual
def cvB (K : PySem.W.Frag) : Nat → Value → D → Bool
 | _, .int i _, .int j => decide (i = j)
 | _, .str s _, .str t => decide (s = t)
 | n + 1, .ref a, .tup ds => (match K.lookup a with
  | some o => decide (o.cls = .type "tuple") && (match o.data with
   | .seq its _ => decide (its.size ≤ 1000) && cvsB K n its.toList ds
   | _ => false)
  | none => false)
 | _, _, _ => false
def cvsB (K : PySem.W.Frag) : Nat → List Value → List D → Bool
 | _, [], [] => true
 | n, v :: vs, d :: ds => cvB K n v d && cvsB K n vs ds
 | _, _, _ => false
end
mutual
theorem cvB_ok {K : PySem.W.Frag} : ∀ (n : Nat) (v : Value) (d : D), cvB K n v d = true → ∃ x : V, RelV x v ∧ (∀ cl H, Rp K cl H x d []) ∧ d.noE = true
 | n, .int i t, .int j, h => by
  have e : i = j := by cases n <;> (simp only [cvB, decide_eq_true_eq] at h; exact h)
  exact ⟨.int j, ⟨t, by rw [e]⟩, fun _ _ => .int _, rfl⟩
 | n, .str s t, .str z, h => by
  have e : s = z := by cases n <;> (simp only [cvB, decide_eq_true_eq] at h; exact h)
  exact ⟨.str z, ⟨t, by rw [e]⟩, fun _ _ => .str _, rfl⟩
 | n + 1, .ref a, .tup ds, h => by
  simp only [cvB] at h
  cases e : K.lookup a with
  | none => rw [e] at h; cases h
  | some o =>
   rw [e] at h
   simp only [Bool.and_eq_true, decide_eq_true_eq] at h
   obtain ⟨h1, h2⟩ := h
   cases ed : o.data with
   | seq its m =>
    rw [ed] at h2
    simp only [Bool.and_eq_true, decide_eq_true_eq] at h2
    obtain ⟨xs, r1, r2⟩ := cvsB_ok n its.toList ds h2.2
    exact ⟨.ref a, rfl, fun cl H => .tup (.inr ⟨o, its, m, e, h1, ed, by rw [sizeLine_eq]; omega, r1⟩) (r2 cl H), rfl⟩
   | _ => rw [ed] at h2; cases h2
 | 0, .ref a, .tup ds, h => by simp [cvB] at h
 | n, .none, d, h => by cases n <;> cases d <;> simp [cvB] at h
 | n, .bool _, d, h => by cases n <;> cases d <;> simp [cvB] at h
 | n, .int _ _, .non, h => by cases n <;> simp [cvB] at h
 | n, .int _ _, .bl _, h => by cases n <;> simp [cvB] at h
 | n, .int _ _, .str _, h => by cases n <;> simp [cvB] at h
 | n, .int _ _, .tup _, h => by cases n <;> simp [cvB] at h
 | n, .int _ _, .lst _, h => by cases n <;> simp [cvB] at h
 | n, .int _ _, .dK _, h => by cases n <;> simp [cvB] at h
 | n, .int _ _, .dT _, h => by cases n <;> simp [cvB] at h
 | n, .int _ _, .ins _ _, h => by cases n <;> simp [cvB] at h
 | n, .int _ _, .fzl _, h => by cases n <;> simp [cvB] at h
 | n, .int _ _, .exn _ _, h => by cases n <;> simp [cvB] at h
 | n, .str _ _, .non, h => by cases n <;> simp [cvB] at h
 | n, .str _ _, .bl _, h => by cases n <;> simp [cvB] at h
 | n, .str _ _, .int _, h => by cases n <;> simp [cvB] at h
 | n, .str _ _, .tup _, h => by cases n <;> simp [cvB] at h
 | n, .str _ _, .lst _, h => by cases n <;> simp [cvB] at h
 | n, .str _ _, .dK _, h => by cases n <;> simp [cvB] at h
 | n, .str _ _, .dT _, h => by cases n <;> simp [cvB] at h
 | n, .str _ _, .ins _ _, h => by cases n <;> simp [cvB] at h
 | n, .str _ _, .fzl _, h => by cases n <;> simp [cvB] at h
 | n, .str _ _, .exn _ _, h => by cases n <;> simp [cvB] at h
 | n, .ref _, .non, h => by cases n <;> simp [cvB] at h
 | n, .ref _, .bl _, h => by cases n <;> simp [cvB] at h
 | n, .ref _, .int _, h => by cases n <;> simp [cvB] at h
 | n, .ref _, .str _, h => by cases n <;> simp [cvB] at h
 | n, .ref _, .lst _, h => by cases n <;> simp [cvB] at h
 | n, .ref _, .dK _, h => by cases n <;> simp [cvB] at h
 | n, .ref _, .dT _, h => by cases n <;> simp [cvB] at h
 | n, .ref _, .ins _ _, h => by cases n <;> simp [cvB] at h
 | n, .ref _, .fzl _, h => by cases n <;> simp [cvB] at h
 | n, .ref _, .exn _ _, h => by cases n <;> simp [cvB] at h
 | n, .bytes _ _, d, h => by cases n <;> cases d <;> simp [cvB] at h
 | n, .float _ _, d, h => by cases n <;> cases d <;> simp [cvB] at h
 | n, .type _, d, h => by cases n <;> cases d <;> simp [cvB] at h
 | n, .builtin _, d, h => by cases n <;> cases d <;> simp [cvB] at h
 | n, .ellipsis, d, h => by cases n <;> cases d <;> simp [cvB] at h
 | n, .notImplemented, d, h => by cases n <;> cases d <;> simp [cvB] at h
theorem cvsB_ok {K : PySem.W.Frag} : ∀ (n : Nat) (vs : List Value) (ds : List D), cvsB K n vs ds = true → ∃ xs : List V, Vals xs vs ∧ ∀ cl H, RpL K cl H xs ds []
 | n, [], [], _ => ⟨[], .nil, fun _ _ => .nil⟩
 | n, v :: vs, d :: ds, h => by
  simp only [cvsB, Bool.and_eq_true] at h
  obtain ⟨x, r1, r2, _⟩ := cvB_ok n v d h.1
  obtain ⟨xs, q1, q2⟩ := cvsB_ok n vs ds h.2
  exact ⟨x :: xs, .cons r1 q1, fun cl H => .cons (r2 cl H) (q2 cl H)⟩
 | n, [], _ :: _, h => by simp [cvsB] at h
 | n, _ :: _, [], h => by simp [cvsB] at h
end
def cstB (K : PySem.W.Frag) (x : Str) (d : D) : Bool := match PySem.W.nsIn K mainGlobals x with
 | some (some v) => cvB K 3 v d
 | _ => false
def mB (cs : List (Str × D)) (K : PySem.W.Frag) : Bool := exB K && cs.all fun p => cstB K p.1 p.2
def Cst (K : PySem.W.Frag) (mg : Str → Option Value) (x : Str) (d : D) : Prop := ∃ (v : Value) (w : V), mg x = some v ∧ RelV w v ∧ ∀ cl H, Rp K cl H w d []
structure Faz (fa : List He.Fa) (fn : List He.DefD) (cs : List (Str × D)) (K : PySem.W.Frag) (mg : Str → Option Value) : Prop extends Fax fa fn K mg where
 cst : ∀ (i : Nat) {x : Str} {d : D}, cs[i]? = some (x, d) → Cst K mg x d
theorem faz_of {fa : List He.Fa} {fn : List He.DefD} {cs : List (Str × D)} {w : World} {h : Heap} {K : PySem.W.Frag} {mg : Str → Option Value} (X : K.In h) (G : h.Ns mainGlobals mg) (c : He.SaysX fa fn [] [] (mB cs) w h K) : Faz fa fn cs K mg := by
 have hm := Bool.and_eq_true_iff.mp c.more
 refine { s := c.t.d, x := exB_ok X G hm.1, glo := fun i x e => He.glo_ok X G (c.t.d.fact i e), free := fun i x e => He.free_ok X G (c.t.d.fact i e), cst := fun i x d e => ?_ }
 have hp := List.all_eq_true.mp hm.2 (x, d) (List.mem_of_getElem? e)
 unfold cstB at hp
 dsimp only at hp
 split at hp
 · rename_i v ev
   obtain ⟨y, r1, r2, _⟩ := cvB_ok 3 v d hp
   exact ⟨v, y, PySem.W.mg_of X G ev, r1, r2⟩
 · cases hp
section
variable {X : Cx} {W : WX} {Z : SC} {Γx Γ Γ' : Ctx} {n r : Nat} {m m1 m2 m3 : List Nat} {σ : St} {H : Hp} {lab : Labs} {σD : List D} {pos p px apos ipos : Pos} {R : List Lab} {k k1 : Kd} {ks : List AK} {gs : List D → ER (List D)} {tg e ie : Expr} {x : Str} {g gi : List D → ER D}
theorem ej_cst {d : D} (c : Cst X.K X.mg x d) (hg : Gl X x := by rfl) (hdb : (x == ("__debug__" : Str)) = false := by decide) : EJ X W Γx Γ n [] (.Name x pos) (eC d) .own := by
 obtain ⟨v, w, h1, h2, h3⟩ := c
 exact ej_c (pe_glob hg h1 h2 hdb) fun H => h3 _ H
theorem SR.mut2 {a : Addr} {v : V} {u o : HO} {f' fz : List Addr} {d' : D} (s : SR X Γ σ H lab σD) (g : gok Γ n = true) (hb : noBor Γ r = true) (hΓ : Γ[r]? = some (some .own)) (hσ : σ[r]? = some (some v)) (ha : H a = some u) (mu : isMut u)
 (rp : Rp X.K (clX X) (upd H a o) v d' f') (nd : (f' ++ fz).Nodup) (hl : ∀ b ∈ a :: (f' ++ fz), lab b = .slt r ∨ ∃ j, n ≤ j ∧ lab b = .tmp j) :
 SR X Γ σ (upd H a o) (labMut r n f' fz lab) (σD.set r d') ∧ Pres [r] n H lab (upd H a o) (labMut r n f' fz lab) := by
 have nk : ∀ b ∈ a :: (f' ++ fz), keepL [r] n (lab b) = false := fun b hb => by
  rcases hl b hb with e | ⟨j, hj, e⟩
  · rw [e]; simp [keepL]
  · rw [e]; simp [keepL]; omega
 have P1 : Pres [r] n H lab (upd H a o) lab := .mut ha mu (nk a List.mem_cons_self)
 have P2 : Pres [r] n (upd H a o) lab (upd H a o) (labMut r n f' fz lab) := .relab (fun b hk => by
  unfold labMut
  rw [if_neg (fun z => by rw [nk b (List.mem_cons_of_mem _ (List.mem_append_right _ z))] at hk; exact Bool.noConfusion hk), if_neg (fun z => by rw [nk b (List.mem_cons_of_mem _ (List.mem_append_left _ z))] at hk; exact Bool.noConfusion hk)]) fun b ho => by
  unfold labMut at ho ⊢
  split at ho
  · cases ho
  · rename_i h1
    split at ho
    · cases ho
    · rename_i h2
      rw [if_neg h1, if_neg h2]
 have P := P1.trans P2 (SubK.refl _ _) (SubK.refl _ _)
 refine ⟨⟨s.l1, by rw [List.length_set]; exact s.l2, fun i k e => ?_, s.tb.pres P⟩, P⟩
 obtain ⟨w, d, h1, h2, h3⟩ := s.at_ i k e
 by_cases ne : i = r
 · subst ne
   rw [hσ] at h1
   cases h1
   rw [hΓ] at e
   cases e
   refine ⟨v, d', hσ, List.getElem?_set_self (List.getElem?_eq_some_iff.mp h2).1, f', rp, (List.nodup_append.mp nd).1, fun b hb => ?_⟩
   unfold labMut
   rw [if_neg fun z => (List.nodup_append.mp nd).2.2 b hb b z rfl, if_pos hb]
 · obtain ⟨g1, g2⟩ := noBor.at_ hb g e ne
   exact ⟨w, d, h1, by rw [List.getElem?_set_ne (Ne.symm ne)]; exact h2, h3.pres P g1 g2⟩
end
end Ow
namespace Law
open PySem PySem.Spec PySem.SeqAt PyProof.Rows L2 Ow
def top (i : Nat) : Stmt := PySem.Challenge.pw_rolldiscs_k31_products_in_order.main.body.getD i (.Pass ⟨0, 0, 0, 0⟩)
def dd (i : Nat) (x : Str) : He.DefD := ⟨(x, none), x, x, defArgs (top i), defBody (top i), defScope (top i), [], []⟩
def topm (i j : Nat) : Stmt := match top i with
 | .ClassDef _ _ _ b _ _ _ _ _ _ _ => b.getD j (.Pass ⟨0, 0, 0, 0⟩)
 | _ => .Pass ⟨0, 0, 0, 0⟩
def ddm (i j : Nat) (c m q : Str) : He.DefD := ⟨(c, some m), m, q, defArgs (topm i j), defBody (topm i j), defScope (topm i j), [], []⟩
def ddA (i : Nat) (x y : Str) : He.DefD := ⟨(x, none), y, y, defArgs (top i), defBody (top i), defScope (top i), [], []⟩
def fn : List He.DefD := [dd 12 "_law_bag", dd 16 "_law_count", dd 15 "_law_products", dd 7 "how_many_products", dd 8 "look_room", dd 9 "powers_of_sum", dd 10 "products_of", dd 18 "_law_said", dd 17 "_law_same", dd 13 "_law_take", dd 19 "law"]
def fa : List He.Fa := [.glo "_law_bag", .glo "_law_count", .glo "_law_products", .glo "how_many_products", .glo "look_room", .glo "powers_of_sum", .glo "products_of", .glo "_law_said", .glo "_law_same", .glo "_law_take", .glo "law", .free "len", .free "abs", .free "int", .free "range", .free "sum", .free "sorted", .glo "NoRoom", .free "isinstance", .free "ValueError", .glo "TooMany", .glo "NotEven", .glo "RollError", .free "list", .free "tuple", .free "zip", .free "all", .free "bool", .free "min", .free "max"]
def cs : List (Str × D) := [("MOST_PRODUCTS", .int 20)]
def loose0 : List Str := ["RollError", "NoRoom", "NotEven", "TooMany", "MOST_PRODUCTS", "how_many_products", "look_room", "powers_of_sum", "products_of", "_law_bag", "_law_take", "_law_low"]
def loose1 : List Str := ["_law_products", "_law_count", "_law_same", "_law_said"]
def loose : List Str := loose0 ++ loose1
section
open PySem PySem.Spec PySem.SeqAt PyProof.Rows L2 Ow
abbrev R : PySem.W.OpenRow := PySem.W.OpenLaw.row PySem.Challenge.rw_rolldiscs_k31_products_in_order
abbrev hk : PySem.W.Hook := He.hookX 4 fa fn [] [(lamD, none)] (mB cs)
def ob (s : PySem.W.SharedT) : He.AlX := He.obsX 4 fa fn [] [(lamD, none)] (mB cs) (HandSHeadRun.getT s)
theorem ob_eq (s : PySem.W.SharedT) : ob s = hk.obs s.abs := He.obsX_eq (HandSHeadRun.getT_eq s)
theorem map6 {α β γ δ ε ζ η : Type} {x : Option α} {f : α → β} {g : α → γ} {o : α → ((δ × ε) × ζ) × η} {a : β} {b : γ} {p : δ} {q : ε} {r : ζ} {t : η} (h1 : x.map f = some a) (h2 : x.map g = some b) (h3 : x.map (fun s => (o s).1.1.1) = some p) (h4 : x.map (fun s => (o s).1.1.2) = some q) (h5 : x.map (fun s => (o s).1.2) = some r) (h6 : x.map (fun s => (o s).2) = some t) : x.map (fun s => (f s, g s, o s)) = some (a, b, ((p, q), r), t) := by
 cases x with
 | none => cases h1
 | some s =>
  have d1 : f s = a := Option.some.inj h1
  have d2 : g s = b := Option.some.inj h2
  have e3 := Option.some.inj h3
  have e4 := Option.some.inj h4
  have e5 := Option.some.inj h5
  have e6 := Option.some.inj h6
  have d3 : o s = (((p, q), r), t) := Prod.ext (Prod.ext (Prod.ext e3 e4) e5) e6
  show some (f s, g s, o s) = _
  rw [d1, d2, d3]
section
open PySem PySem.W PySem.Calls PyProof.Rows L2 Ow HandSHeadRun
theorem runB (w : World) : ∀ os : OsState, (endF (stepQ (denQ tabQ) R.prog w) 15000 R.prog w os).map (fun s => looksF R.prog (boot_heap w.params) s.abs) = some true := by
 intro os
 kernel_rfl
theorem runC (w : World) : ∀ os : OsState, (endF (stepQ (denQ tabQ) R.prog w) 15000 R.prog w os).map (fun s => seenQ (PySem.W.view R.prog [19]) loose (importedModules R.prog.main.body) (fun s => xlAt (PySem.W.view R.prog [19]) [] s && recOk R.toRowW.records s) s.abs) = some (openGood (PySem.W.view R.prog [19]) loose) := by
 intro os
 kernel_rfl
theorem runD (w : World) : ∀ os : OsState, (endF (stepQ (denQ tabQ) R.prog w) 15000 R.prog w os).map (fun s => (ob s).1.1.1) = some true := by
 intro os
 kernel_rfl
theorem runE (w : World) : ∀ os : OsState, (endF (stepQ (denQ tabQ) R.prog w) 15000 R.prog w os).map (fun s => (ob s).1.1.2) = some (fn.map He.DefD.val) := by
 intro os
 kernel_rfl
theorem runF (w : World) : ∀ os : OsState, (endF (stepQ (denQ tabQ) R.prog w) 15000 R.prog w os).map (fun s => (ob s).1.2) = some [] := by
 intro os
 kernel_rfl
theorem runG (w : World) : ∀ os : OsState, (endF (stepQ (denQ tabQ) R.prog w) 15000 R.prog w os).map (fun s => (ob s).2) = some true := by
 intro os
 kernel_rfl
end
theorem run (w : World) : HandSHeadRun.RunEq R (PySem.W.view R.prog [19]) hk ob 15000 loose w := fun os => map6 (runB w os) (runC w os) (runD w os) (runE w os) (runF w os) (runG w os)
end
end Law
namespace Ow
open PySem PySem.Spec PyProof.Rows L2
section
variable {X : Cx} {W : WX} {Z : SC} {Γx Γ Γ' : Ctx} {n r x : Nat} {m m1 m2 m3 : List Nat} {σ : St} {H : Hp} {lab : Labs} {σD : List D} {pos p px apos ipos tpos : Pos} {R : List Lab} {k k1 : Kd} {ks : List AK} {gs : List D → ER (List D)} {tg e ie : Expr} {nx : Str} {g gi : List D → ER D}
end
end Ow
namespace Ow
open PySem PySem.Spec PyProof.Rows L2
section
variable {X : Cx} {W : WX} {Z : SC} {Γx Γ Γ' : Ctx} {n r : Nat} {m m1 m2 m3 : List Nat} {σ : St} {H : Hp} {lab : Labs} {σD : List D} {pos p px apos cpos ipos tpos : Pos} {R : List Lab} {k k1 : Kd} {ks : List AK} {gs : List D → ER (List D)} {tg e ie a b : Expr} {x : Str} {g gi ga gb gv gk : List D → ER D}
end
section
variable {κ : Type} [DecidableEq κ]
def dFind (kds : List (κ × D)) (k : κ) : Option D := (kds.find? fun kv => decide (kv.1 = k)).map (·.2)
def dPut (kds : List (κ × D)) (k : κ) (d : D) : List (κ × D) :=
 if (kds.any fun kv => decide (kv.1 = k)) = true then kds.map (fun kv => if kv.1 = k then (kv.1, d) else kv) else kds ++ [(k, d)]
variable {K : PySem.W.Frag} {cl : CE} {H : Hp}
end
def D.key : D → Option Key
 | .int i => some (.inl i)
 | .str s => some (.inr s)
 | _ => none
def keyD : Key → D
 | .inl i => .int i
 | .inr s => .str s
section
variable {X : Cx} {W : WX} {Z : SC} {Γx Γ Γ' : Ctx} {n r : Nat} {m m1 m2 m3 : List Nat} {σ : St} {H : Hp} {lab : Labs} {σD : List D} {pos p px apos cpos ipos tpos : Pos} {R : List Lab} {k k1 : Kd} {ks : List AK} {gs : List D → ER (List D)} {tg e ie a b : Expr} {x : Str} {g gi ga gb gv gk : List D → ER D}
def eDNew : List D → ER D := fun σ => .ok (.dK []) σ
def dPutD (c q v : D) : Option D := match c with
 | .dK kds => if v.flat = true ∧ kds.length < sizeLine then q.key.map fun z => .dK (dPut kds z v) else none
 | _ => none
end
section
variable {X : Cx} {W : WX} {Z : SC} {Γx Γ Γ' : Ctx} {n r : Nat} {m m1 m2 m3 : List Nat} {σ : St} {H : Hp} {lab : Labs} {σD : List D} {pos p px apos cpos ipos tpos : Pos} {R : List Lab} {k k1 : Kd} {ks : List AK} {gs : List D → ER (List D)} {tg e ie a b c : Expr} {x : Str} {g gi ga gb gv gk gc : List D → ER D}
theorem hu1 {j : Nat} {A : Around} (h : Room j A) : A.units + 1 < cLine := by have := h.un; omega
def sSetD (r : Nat) (gv gi : List D → ER D) : List D → SO := sOf gv fun v => sOf gi fun i σ => match dPutD (σ.getD r .non) i v with
 | some c => .nxt (σ.set r c)
 | none => .stuck
def eChain (f f' : D → D → Option D) (ga gb gc : List D → ER D) : List D → ER D := fun σ => (ga σ).bind fun x σ1 => (gb σ1).bind fun y σ2 => match f x y with
 | some (.bl true) => (gc σ2).bind fun z σ3 => ofO (f' y z) σ3
 | some (.bl false) => .ok (.bl false) σ2
 | _ => .stuck
end
end Ow
namespace Ow
open PySem PySem.Spec PyProof.Rows L2
section
variable {X : Cx} {W : WX} {Z : SC} {Γx Γ Γ' : Ctx} {n r : Nat} {m m1 m2 m3 : List Nat} {σ : St} {H : Hp} {lab : Labs} {σD : List D} {pos p px apos cpos ipos tpos : Pos} {R : List Lab} {k k1 : Kd} {ks : List AK} {gs : List D → ER (List D)} {tg e ie a b c : Expr} {x : Str} {g gi ga gb gv gk gc : List D → ER D}
end
end Ow
namespace Ow
open PySem PySem.Spec PyProof.Rows L2
def D.scal : D → Bool
 | .non => true
 | .bl _ => true
 | .int _ => true
 | .str _ => true
 | _ => false
def D.sv : D → V
 | .bl b => .bl b
 | .int i => .int i
 | .str s => .str s
 | _ => .non
section
variable {K : PySem.W.Frag} {cl : CE} {H : Hp}
theorem Rp.sv {v : V} {d : D} {fp : List Addr} (r : Rp K cl H v d fp) (h : d.scal = true) : v = d.sv := by
 cases r <;> first | rfl | cases h
theorem RpL.sv : ∀ {vs : List V} {ds : List D} {fp : List Addr}, RpL K cl H vs ds fp → ds.all D.scal = true → vs = ds.map D.sv
 | _, _, _, .nil, _ => rfl
 | _, _, _, .cons h r, e => by
  rw [List.all_cons, Bool.and_eq_true] at e
  rw [List.map_cons, h.sv e.1, RpL.sv r e.2]
theorem RpL.cut : ∀ {vs : List V} {ds : List D} {f : List Addr} (k : Nat), RpL K cl H vs ds f → ∃ f1 f2, f = f1 ++ f2 ∧ RpL K cl H (vs.take k) (ds.take k) f1 ∧ RpL K cl H (vs.drop k) (ds.drop k) f2
 | _, _, _, 0, r => ⟨[], _, rfl, .nil, r⟩
 | _, _, _, k + 1, .nil => ⟨[], [], rfl, .nil, .nil⟩
 | _, _, _, k + 1, .cons h r => by
  obtain ⟨f1, f2, rfl, a, b⟩ := RpL.cut k r
  exact ⟨_, f2, (List.append_assoc _ _ _).symm, .cons h a, b⟩
end
def intsOf : List D → Option (List Int)
 | [] => some []
 | .int i :: ds => (intsOf ds).map (i :: ·)
 | _ :: _ => none
section
variable {X : Cx} {W : WX} {Z : SC} {Γx Γ Γ' : Ctx} {n r : Nat} {m m1 m2 m3 : List Nat} {σ : St} {H : Hp} {lab : Labs} {σD : List D} {pos p px apos cpos ipos tpos : Pos} {R : List Lab} {k k1 : Kd} {ks : List AK} {gs : List D → ER (List D)} {tg e ie a b c : Expr} {x : Str} {g gi ga gb gv gk gc : List D → ER D}
section
variable {op : CmpOp} {rr : R2} {f : D → D → Option D}
end
end
end Ow
namespace Ow
open PySem PySem.Spec PyProof.Rows L2
section
variable {X : Cx} {W : WX} {Z : SC} {Γ : Ctx} {n : Nat} {m : List Nat} {pos : Pos}
end
end Ow
namespace Ow
open PySem PySem.Spec PyProof.Rows L2
def sUnpL (is : List Nat) (g : List D → ER D) : List D → SO := sOf g fun d σ1 => match d with
 | .lst ds => (match setMany is ds σ1 with
  | some σ2 => .nxt σ2
  | none => .stuck)
 | _ => .stuck
section
variable {X : Cx} {W : WX} {Z : SC} {Γ : Ctx} {n : Nat} {m : List Nat} {pos : Pos} {H : Hp}
inductive Each (K : PySem.W.Frag) (cl : CE) (H : Hp) (lab : Labs) : Nat → List V → List D → List Addr → Prop
 | nil {n : Nat} : Each K cl H lab n [] [] []
 | cons {n : Nat} {v : V} {d : D} {vs : List V} {ds : List D} {f1 f2 : List Addr} (h : Rp K cl H v d f1) (nd : f1.Nodup) (l : ∀ a ∈ f1, lab a = .tmp n) (r : Each K cl H lab (n + 1) vs ds f2) : Each K cl H lab n (v :: vs) (d :: ds) (f1 ++ f2)
theorem Each.put {K : PySem.W.Frag} {cl : CE} {lab : Labs} {i k : Nat} : ∀ {n : Nat} {vs : List V} {ds : List D} {f : List Addr}, k < n → Each K cl H lab n vs ds f → Each K cl H (labPut i k lab) n vs ds f
 | _, _, _, _, _, .nil => .nil
 | n, _, _, _, hk, .cons h nd l r => by
  refine .cons h nd (fun a ha => ?_) (Each.put (by omega) r)
  have e := l a ha
  unfold labPut
  rw [e, if_neg (by intro z; cases z), if_neg (by intro z; injection z; omega)]
end
end Ow
namespace Ow
open PySem PySem.Spec PyProof.Rows L2
section
variable {X : Cx} {W : WX} {Γx Γ : Ctx} {n : Nat} {m : List Nat} {pos p : Pos} {k : Kd} {gs : List D → ER (List D)} {e : Expr}
end
end Ow
namespace Ow
open PySem PySem.Spec PyProof.Rows L2
section
variable (X : Cx) (W : WX) (Γx Γ Γ' : Ctx) (n : Nat) (m : List Nat)
end
section
variable {α β γ δ : Type}
variable {X : Cx} {W : WX} {Γx Γ Γ1 Γ2 : Ctx} {σ : St} {m m1 m2 : List Nat} {n n1 n2 : Nat} {H H1 : Hp} {lab lab1 : Labs}
end
section
variable {X : Cx} {W : WX} {Z : SC} {Γx Γ Γ' Γ1 Γ2 : Ctx} {n r i : Nat} {m m1 m2 m3 : List Nat} {H : Hp} {lab : Labs} {pos p px apos : Pos} {k k1 : Kd} {ks : List AK} {gs : List D → ER (List D)} {e e2 a b : Expr} {es : List Expr} {x : Str} {g ga gb : List D → ER D} {fx : Nat → V} {E : Ends}
def labMv (i n : Nat) (lab : Labs) : Labs := fun a => if lab a = .slt i then .tmp n else lab a
theorem Pres.mv : Pres [i] n H lab H (labMv i n lab) := .relab (fun a h => by
 unfold labMv
 rw [if_neg (by intro e; rw [e] at h; simp [keepL] at h)]) fun a h => by
 unfold labMv at h ⊢
 split at h
 · cases h
 · rename_i h1
   rw [if_neg h1]
end
end Ow
namespace Ow
open PySem PySem.Spec PyProof.Rows L2
inductive Fk where
 | int | str | tup (d : Nat)
 deriving DecidableEq
def cpK (l : List Nat) : List Int := l.map (fun (c : Nat) => (c : Int) + 1) ++ [0]
def strK (x : Str) : List Int := cpK x.cps.toList
inductive FldsC (h : Heap) : List Fk → List Value → List Int → Prop
 | nil : FldsC h [] [] []
 | int {P : List Fk} {us : List Value} {ks : List Int} (i : Int) (t : Tok) (r : FldsC h P us ks) : FldsC h (.int :: P) (.int i t :: us) (i :: ks)
 | str {P : List Fk} {us : List Value} {ks : List Int} (x : Str) (t : Tok) (r : FldsC h P us ks) : FldsC h (.str :: P) (.str x t :: us) (strK x ++ ks)
 | tup {P : List Fk} {us : List Value} {ks : List Int} {d : Nat} {a : Addr} {its : Array Value} {ns : List Int} (h1 : IsTup h a its) (h2 : IntsAre its.toList ns) (hd : ns.length = d) (r : FldsC h P us ks) : FldsC h (.tup d :: P) (.ref a :: us) (ns ++ ks)
def RowC (h : Heap) (P : List Fk) (u : Value) (ks : List Int) : Prop := ∃ t its, u = .ref t ∧ IsTup h t its ∧ FldsC h P its.toList ks
def KeepH (h h' : Heap) : Prop := ∀ (b : Addr) (o : Obj), h.get? b = some o → h'.get? b = some o
theorem IsTup.keep {h h' : Heap} (k : KeepH h h') {a : Addr} {its : Array Value} (i : IsTup h a its) : IsTup h' a its := by
 obtain ⟨o, e, r⟩ := i
 exact ⟨o, k _ _ e, r⟩
theorem FldsC.keep {h h' : Heap} (k : KeepH h h') : ∀ {P : List Fk} {us : List Value} {ks : List Int}, FldsC h P us ks → FldsC h' P us ks
 | _, _, _, .nil => .nil
 | _, _, _, .int i t r => .int i t (r.keep k)
 | _, _, _, .str x t r => .str x t (r.keep k)
 | _, _, _, .tup h1 h2 hd r => .tup (IsTup.keep k h1) h2 hd (r.keep k)
theorem RowC.keep {h h' : Heap} (k : KeepH h h') {P : List Fk} {u : Value} {ks : List Int} (r : RowC h P u ks) : RowC h' P u ks := by
 obtain ⟨t, its, e, i, f⟩ := r
 exact ⟨t, its, e, IsTup.keep k i, f.keep k⟩
theorem FldsC.len {h : Heap} : ∀ {P : List Fk} {us : List Value} {ks : List Int}, FldsC h P us ks → us.length = P.length
 | _, _, _, .nil => rfl
 | _, _, _, .int i t r => by rw [List.length_cons, List.length_cons, r.len]
 | _, _, _, .str x t r => by rw [List.length_cons, List.length_cons, r.len]
 | _, _, _, .tup h1 h2 hd r => by rw [List.length_cons, List.length_cons, r.len]
section
variable {prog : Program} {w : World} {A : Around} {s : Shared}
end
theorem ints_fun : ∀ {vs : List Value} {ns ms : List Int}, IntsAre vs ns → IntsAre vs ms → ns = ms
 | _, _, _, .nil, .nil => rfl
 | _, _, _, .cons n t h, .cons _ _ g => by rw [ints_fun h g]
theorem FldsC.fn {h : Heap} : ∀ {P : List Fk} {us : List Value} {ks ls : List Int}, FldsC h P us ks → FldsC h P us ls → ks = ls
 | _, _, _, _, .nil, .nil => rfl
 | _, _, _, _, .int i t r, .int _ _ r' => by rw [r.fn r']
 | _, _, _, _, .str x t r, .str _ _ r' => by rw [r.fn r']
 | _, _, _, _, .tup h1 h2 hd r, .tup g1 g2 gd r' => by
  obtain ⟨o, a, _, n, b⟩ := h1
  obtain ⟨o', a', _, n', b'⟩ := g1
  rw [a] at a'
  cases a'
  rw [b] at b'
  injection b' with e
  subst e
  rw [ints_fun h2 g2, r.fn r']
theorem RowC.fn {h : Heap} {P : List Fk} {u : Value} {ks ls : List Int} (r : RowC h P u ks) (q : RowC h P u ls) : ks = ls := by
 obtain ⟨t, its, rfl, ⟨o, a, _, n, b⟩, f⟩ := r
 obtain ⟨t', its', e, ⟨o', a', _, n', b'⟩, f'⟩ := q
 cases e
 rw [a] at a'
 cases a'
 rw [b] at b'
 injection b' with e
 subst e
 exact f.fn f'
section
variable {X : Cx} {W : WX} {Γx Γ : Ctx} {n : Nat} {m : List Nat} {pos p : Pos} {k : Kd} {gs : List D → ER (List D)} {e : Expr}
end
end Ow
namespace Ow
open PySem PySem.Spec PyProof.Rows L2
section
variable {X : Cx} {pins : List (Addr × Obj)} {σ : St} {H : Hp} {s : Shared} {a : Addr} {o : Obj} {us : List (List Int × Addr × Value)}
end
section
variable {X : Cx} {pos apos cpos : Pos}
end
section
variable {K : PySem.W.Frag} {cl : CE} {H : Hp}
end
section
variable {X : Cx} {W : WX} {Z : SC} {Γx Γ Γ' : Ctx} {n r : Nat} {m m1 m2 m3 : List Nat} {pos p px apos cpos ipos tpos : Pos} {k k1 k2 : Kd} {tg e f ie : Expr} {x : Str} {g gi ge gf gv : List D → ER D}
def eDNewT : List D → ER D := fun σ => .ok (.dT []) σ
def dGetT : D → D → D → Option D
 | .dT kds, .tup ds, z => (intsOf ds).bind fun ks => if ((dFind kds ks).getD z).flat = true then some ((dFind kds ks).getD z) else none
 | _, _, _ => none
def isDT : D → Bool
 | .dT _ => true
 | _ => false
def eGetT (r : Nat) (ge gf : List D → ER D) : List D → ER D := fun σ => if isDT (σ.getD r .non) = true then (ge σ).bind fun y σ1 => (gf σ1).bind fun z σ2 => ofO (dGetT (σ2.getD r .non) y z) σ2 else .stuck
def dIxT : D → D → Option D
 | .dT kds, .tup ds => (intsOf ds).bind fun ks => (dFind kds ks).bind fun d => if d.flat = true then some d else none
 | _, _ => none
def eIxT (r : Nat) (gi : List D → ER D) : List D → ER D := fun σ => if isDT (σ.getD r .non) = true then (gi σ).bind fun y σ1 => ofO (dIxT (σ1.getD r .non) y) σ1 else .stuck
def dPutT : D → D → D → Option D
 | .dT kds, .tup ds, d => if d.flat = true ∧ kds.length < sizeLine then (intsOf ds).map fun ks => .dT (dPut kds ks d) else none
 | _, _, _ => none
def sSetT (r : Nat) (gv gi : List D → ER D) : List D → SO := sOf gv fun d σ => match gi σ with
 | .stuck => .stuck
 | .ok i σ1 => (match dPutT (σ1.getD r .non) i d with
  | some c => .nxt (σ1.set r c)
  | none => .stuck)
 | .exc c p σ1 => .exc c p σ1
end
def gKeysT (r : Nat) : List D → ER (List D) := fun σ => match σ.getD r .non with
 | .dT kds => .ok (kds.map fun kv => .tup (kv.1.map D.int)) σ
 | _ => .stuck
section
variable {X : Cx} {W : WX} {Γx Γ : Ctx} {n r : Nat} {px : Pos} {k : Kd} {tg : Expr} {x : Str}
end
end Ow
namespace Ow
open PySem PySem.Spec PyProof.Rows L2
section
variable {X : Cx} {tg : Expr} {z : Addr} {fp wr ch : List Addr} {q i : Nat} {St : Nat → Heap → Prop} {Pt : Nat → Array Value → Prop} {pins : List (Addr × Obj)} {s : Shared} {σ : L2.St} {H : Hp} {E : Value → Shared → Prop}
end
theorem far {a n k : Nat} (h : a < n) : a ≠ n + k := by omega
structure Sep5 (z TI TO i1 i2 a b : Addr) : Prop where
 nd : [z, TI, TO, i1, i2].Nodup
 ha : a ∉ [z, TI, TO, i1, i2]
 hb : b ∉ [z, TI, TO, i1, i2]
theorem Sep5.zs {z TI TO i1 i2 a b : Addr} (D : Sep5 z TI TO i1 i2 a b) : ZipSep2 z TI TO i1 i2 [i1, a] [i2, b] := by
 obtain ⟨nd, ha, hb⟩ := D
 simp only [List.nodup_cons, List.mem_cons, List.not_mem_nil, not_or, or_false] at nd ha hb
 constructor <;> simp only [List.mem_cons, List.not_mem_nil, not_or, or_false, true_or, ne_eq] <;> grind
structure ZmAt (z TI TO i1 i2 a b : Addr) (i : Nat) (h : Heap) : Prop where
 zp : IsZip h z TI TO .none
 ti : IsTupOf2 h TI (.ref i1) (.ref i2)
 to_ : ∃ x y, IsTupOf2 h TO x y
 w1 : h.IsTupleIter i1 a i
 w2 : h.IsListIter i2 b i
theorem ZmAt.objs {z TI TO i1 i2 a b : Addr} {i : Nat} {h : Heap} (st : ZmAt z TI TO i1 i2 a b i h) : ∀ c ∈ [z, TI, TO, i1, i2], ∃ o, h.get? c = some o ∧ ∀ v, o.data ≠ .cell v := by
 obtain ⟨x, y, hTO⟩ := st.to_
 obtain ⟨o1, e1, _, d1⟩ := st.w1
 obtain ⟨o2, e2, _, d2⟩ := st.w2
 intro c hc
 simp only [List.mem_cons, List.not_mem_nil, or_false] at hc
 rcases hc with rfl | rfl | rfl | rfl | rfl
 · exact ⟨_, st.zp, fun _ e => nomatch e⟩
 · exact ⟨_, st.ti, fun _ e => nomatch e⟩
 · exact ⟨_, hTO, fun _ e => nomatch e⟩
 · exact ⟨o1, e1, fun v e => by rw [d1] at e; cases e⟩
 · exact ⟨o2, e2, fun v e => by rw [d2] at e; cases e⟩
section
variable {X : Cx} {W : WX} {Γx Γ : Ctx} {n : Nat} {m : List Nat} {pos p : Pos} {e e2 : Expr} {gs : List D → ER (List D)} {ks : List AK} {R : List Lab} {H : Hp} {lab : Labs}
end
end Ow
namespace Ow
open PySem PySem.Spec PyProof.Rows L2
section
variable {X : Cx} {W : WX} {Γx Γ : Ctx} {n : Nat} {m1 m2 : List Nat} {pos : Pos} {a b : Expr} {ga gb : List D → ER D} {k k1 : Kd}
end
end Ow
namespace Ow
open PySem PySem.Spec PyProof.Rows L2
section
variable {X : Cx} {W : WX} {Γx Γ : Ctx} {n : Nat} {m1 m2 : List Nat} {pos : Pos} {a b : Expr} {ga gb : List D → ER D} {k k1 : Kd} {H : Hp}
end
end Ow
namespace Ow
open PySem PySem.Spec PyProof.Rows L2
end Ow
namespace Ow
open PySem PySem.Spec PyProof.Rows L2
structure EnAt (e it a : Addr) (i : Nat) (h : Heap) : Prop where
 en : ∃ old, IsEnum h e it (0 + (i : Int)) old
 w1 : h.IsTupleIter it a i
theorem EnAt.objs {e it a : Addr} {i : Nat} {h : Heap} (st : EnAt e it a i h) : ∀ c ∈ [e, it], ∃ o, h.get? c = some o ∧ ∀ v, o.data ≠ .cell v := by
 obtain ⟨old, he⟩ := st.en
 obtain ⟨o1, e1, _, d1⟩ := st.w1
 intro c hc
 simp only [List.mem_cons, List.not_mem_nil, or_false] at hc
 rcases hc with rfl | rfl
 · exact ⟨_, he, fun _ q => nomatch q⟩
 · exact ⟨o1, e1, fun v q => by rw [d1] at q; cases q⟩
section
variable {X : Cx} {W : WX} {Γx Γ : Ctx} {n : Nat} {m : List Nat} {pos p : Pos} {e : Expr} {gs : List D → ER (List D)} {ks : List AK} {R : List Lab} {H : Hp} {lab : Labs}
end
end Ow
namespace Ow
open PySem PySem.Spec PyProof.Rows L2
section
variable {X : Cx} {W : WX} {Z : SC} {Γx Γ Γ' : Ctx} {n r : Nat} {m m1 m2 m3 : List Nat} {H : Hp} {lab : Labs} {pos p px apos p1 p2 p3 : Pos} {R : List Lab} {k k1 : Kd} {ks : List AK} {gs : List D → ER (List D)} {tg e e2 a b : Expr} {x : Str} {g ga gb : List D → ER D} {σ : St} {σD : List D}
end
end Ow
namespace Ow
open PySem PySem.Spec PyProof.Rows L2
section
variable {X : Cx} {W : WX} {Z : SC} {Γx Γ Γ' : Ctx} {n r : Nat} {m m1 m2 : List Nat} {σ : St} {H : Hp} {lab : Labs} {σD : List D} {pos : Pos}
theorem SR.drop {js : List Nat} (s : SR X Γ σ H lab σD) (hd : wipeC Γ js = Γ') : SR X Γ' σ H lab σD := hd ▸ ⟨s.l1, s.l2, fun i k e => s.at_ i k (wipeC_at e).1, s.tb⟩
end
end Ow
namespace Ow
open PySem PySem.Spec PyProof.Rows L2
section
variable {P : Program} {w : World} {A : Around} {E : Value → Shared → Prop} {s : Shared}
end
section
variable {X : Cx} {W : WX} {Γx Γ : Ctx} {n : Nat} {m : List Nat} {pos p pos2 p2 : Pos} {k : Kd} {gs : List D → ER (List D)} {e : Expr}
end
section
variable {X : Cx} {W : WX} {Γx Γ : Ctx} {n r : Nat} {m : List Nat} {nx : Str} {px apos cpos : Pos} {H : Hp}
end
end Ow
namespace Ow
open PySem PySem.Spec PyProof.Rows L2
def dFld (c f : Str) : D → Option D
 | .ins c' fs => if c' = c then fs.lookup f else none
 | _ => none
def putD (f : Str) (v : D) : List (Str × D) → List (Str × D)
 | [] => [(f, v)]
 | (g, x) :: r => if g = f then (g, v) :: r else (g, x) :: putD f v r
section
variable {K : PySem.W.Frag} {cl : CE} {H H' : Hp} {lab : Labs}
theorem fld_at {f : Str} : ∀ {fs : List (Str × V)} {fds : List (Str × D)} {d : D}, fs.map (·.1) = fds.map (·.1) → fds.lookup f = some d → ∃ (i : Nat), (fds.map (·.2))[i]? = some d ∧ (∀ v, (fs.map (·.2))[i]? = some v → fs.lookup f = some v) ∧
 (∀ w : V, (putF f w fs).map (·.1) = fs.map (·.1) ∧ (putF f w fs).map (·.2) = (fs.map (·.2)).set i w) ∧ (∀ e : D, (putD f e fds).map (·.1) = fds.map (·.1) ∧ (putD f e fds).map (·.2) = (fds.map (·.2)).set i e)
 | _, [], _, _, h => by cases h
 | [], (g, x) :: r, _, e, _ => by cases e
 | (g', y) :: q, (g, x) :: r, d, e, h => by
  rw [List.map_cons, List.map_cons] at e
  injection e with e1 e2
  have e1 : g' = g := e1
  subst e1
  by_cases hg : g' = f
  · subst hg
    have : d = x := by simpa [List.lookup] using h.symm
    subst this
    refine ⟨0, rfl, fun v hv => ?_, fun w => ?_, fun w => ?_⟩
    · have : y = v := by simpa using hv
      subst this
      simp [List.lookup]
    · simp [putF]
    · simp [putD]
  · have hb : (f == g') = false := beq_eq_false_iff_ne.mpr fun z => hg z.symm
    have h2 : r.lookup f = some d := by simpa [List.lookup, hb] using h
    obtain ⟨i, a1, a2, a3, a4⟩ := fld_at e2 h2
    refine ⟨i + 1, by simpa using a1, fun v hv => ?_, fun w => ?_, fun w => ?_⟩
    · have := a2 v (by simpa using hv)
      simpa [List.lookup, hb] using this
    · obtain ⟨b1, b2⟩ := a3 w
      simp [putF, hg, b1, b2]
    · obtain ⟨b1, b2⟩ := a4 w
      simp [putD, hg, b1, b2]
theorem VR.fldB {R : List Lab} {t : Lab} {v : V} {c f : Str} {x d : D} (h : VR K cl H lab (.bor R) t v x) (e : dFld c f x = some d) : ∃ a C dx fs w, v = .ref a ∧ cl.cl c C ∧ H a = some (.ins C dx fs) ∧ fs.lookup f = some w ∧ VR K cl H lab (.bor R) t w d := by
 obtain ⟨fp, r, l⟩ := h
 unfold dFld at e
 split at e
 · rename_i c' fds
   split at e
   · rename_i hc
     subst hc
     cases r with
     | ins hcl hH hk rr =>
      rename_i a C dx fs fp'
      obtain ⟨i, a1, a2, _, _⟩ := fld_at hk e
      obtain ⟨w, fw, e1, rw', sb⟩ := rr.get a1
      exact ⟨a, C, dx, fs, w, rfl, hcl, hH, a2 w e1, fw, rw', fun b hb => l b (List.mem_cons_of_mem _ (sb.subset hb))⟩
   · cases e
 · cases e
end
section
variable {X : Cx} {W : WX} {Z : SC} {Γx Γ Γ' : Ctx} {n r x : Nat} {m m1 m2 m3 : List Nat} {σ : St} {H : Hp} {lab : Labs} {σD : List D} {pos p px apos ipos tpos : Pos} {R : List Lab} {k k1 : Kd} {ks : List AK} {gs : List D → ER (List D)} {tg e ie o : Expr} {nx c f : Str} {g gi : List D → ER D}
end
end Ow
namespace Ow
open PySem PySem.Spec PySem.SeqAt PyProof.Rows L2
section
variable {X : Cx} {CX : CXT} {k : Nat} {f C : Addr} {fd : FuncData} {ps : List Str} {sp : Sp} {E : L2.St → XK} {x m : Str} {p pos apos : Pos} {e o : Expr} {es : List Expr} {ta : TE} {t : TA}
end
def okM (c m : Str) : D → Bool
 | .ins c' fds => decide (c' = c) && (fds.lookup m).isNone
 | _ => false
theorem lookup_none {fs : List (Str × V)} {fds : List (Str × D)} {f : Str} (e : fs.map (·.1) = fds.map (·.1)) (h : fds.lookup f = none) : fs.lookup f = none := by
 induction fds generalizing fs with
 | nil => cases fs with
  | nil => rfl
  | cons a b => cases e
 | cons a b ih =>
  obtain ⟨g, x⟩ := a
  cases fs with
  | nil => cases e
  | cons q r =>
   obtain ⟨g', y⟩ := q
   rw [List.map_cons, List.map_cons] at e
   injection e with e1 e2
   have e1 : g' = g := e1
   subst e1
   by_cases hg : f = g'
   · subst hg; simp [List.lookup] at h
   · have hb : (f == g') = false := beq_eq_false_iff_ne.mpr hg
     have h2 : b.lookup f = none := by simpa [List.lookup, hb] using h
     have := ih e2 h2
     simpa [List.lookup, hb] using this
section
variable {X : Cx} {W : WX} {Γx Γ : Ctx} {n lv np r : Nat} {m m1 m2 : List Nat} {ks : List AK} {rs io : List Nat} {own : Ret} {Fd : List D → FR} {c mt nx : Str} {p pos apos px : Pos} {e o : Expr} {es : List Expr} {gs : List D → ER (List D)} {g : List D → ER D} {R : List Lab}
theorem VR.okM {K : PySem.W.Frag} {cl : CE} {H : Hp} {lab : Labs} {t : Lab} {v : V} {d : D} (h : VR K cl H lab (.bor R) t v d) (e : okM c mt d = true) : ∃ a C dx fs, v = .ref a ∧ cl.cl c C ∧ H a = some (.ins C dx fs) ∧ fs.lookup mt = none := by
 obtain ⟨fp, rp, _⟩ := h
 cases rp with
 | ins hc hH hk rr =>
  simp only [Ow.okM, Bool.and_eq_true, decide_eq_true_eq, Option.isNone_iff_eq_none] at e
  obtain ⟨rfl, e2⟩ := e
  exact ⟨_, _, _, _, rfl, hc, hH, lookup_none hk e2⟩
 | _ => cases e
end
end Ow
namespace Ow
open PySem PySem.Spec PySem.SeqAt PyProof.Rows L2
section
variable {X : Cx} {CX : CXT} {k : Nat} {f C : Addr} {fd : FuncData} {ps : List Str} {sp : Sp} {E : L2.St → XK} {x m : Str} {p pos apos : Pos} {e o : Expr} {es : List Expr} {ta : TE} {t : TA}
end
section
variable {X : Cx} {W : WX} {Γx Γ : Ctx} {n lv np r : Nat} {m m1 m2 : List Nat} {ks : List AK} {rs io : List Nat} {own : Ret} {Fd : List D → FR} {c mt nx x : Str} {p pos apos px : Pos} {e o : Expr} {es : List Expr} {gs : List D → ER (List D)} {g : List D → ER D} {R : List Lab}
end
end Ow
namespace Ow
open PySem PySem.Spec PySem.SeqAt PyProof.Rows L2
section
variable {X : Cx} {W : WX} {Z : SC} {Γx Γ Γ' : Ctx} {n r : Nat} {m m1 m2 : List Nat} {pos p px apos fpos tpos : Pos} {k : Kd} {ks : List AK} {gs : List D → ER (List D)} {e ie : Expr} {nx c f : Str} {g gi gv : List D → ER D}
end
section
variable {P : Program} {w : World} {K : PySem.W.Frag} {mg : Str → Option Value} {base : Heap}
end
end Ow
namespace Ow
open PySem PySem.Spec PySem.SeqAt PyProof.Rows L2
section
variable {X : Cx} {W : WX} {Z : SC} {Γx Γ Γ' : Ctx} {n r : Nat} {m m1 m2 : List Nat} {pos : Pos} {H H1 : Hp} {lab lab1 : Labs}
end
end Ow
namespace Ow
open PySem PySem.Spec PySem.SeqAt PyProof.Rows L2
section
variable {X : Cx} {W : WX} {Z : SC} {Γx Γ Γ' : Ctx} {n r : Nat} {m m1 m2 : List Nat} {σ : L2.St} {H : Hp} {lab : Labs} {σD : List D} {pos pt px : Pos} {c nx f : Str} {e : Expr} {g : List D → ER D}
end
end Ow
namespace Ow
open PySem PySem.Spec PySem.SeqAt PyProof.Rows L2
section
variable {X : Cx} {W : WX} {Z : SC} {Γx Γ Γ' : Ctx} {n r : Nat} {m m1 m2 m3 : List Nat} {pos p px tpos : Pos} {e : Expr} {nx c f : Str} {g : List D → ER D}
end
end Ow
namespace Ow
open PySem PySem.Spec PySem.SeqAt PyProof.Rows L2
section
variable {X : Cx} {W : WX} {Γx Γ : Ctx} {n : Nat} {m m1 m2 : List Nat} {pos apos : Pos} {k : Kd} {ks : List AK} {gs : List D → ER (List D)} {e o : Expr} {g : List D → ER D}
end
end Ow
namespace Ow
open PySem PySem.Spec PySem.SeqAt PyProof.Rows L2
section
variable {X : Cx} {W : WX} {Γx Γ : Ctx} {n : Nat} {m : List Nat} {e : Expr} {g : List D → ER D} {R : List Lab}
end
end Ow
namespace Ow
open PySem PySem.Spec PySem.SeqAt PyProof.Rows L2
section
variable {X : Cx} {W : WX} {Γx Γ : Ctx} {n : Nat} {m1 m2 : List Nat} {pos p px ipos : Pos} {k k1 : Kd} {a b : Expr} {ga gb : List D → ER D}
end
end Ow
namespace Ow
open PySem PySem.Spec PySem.SeqAt PyProof.Rows L2
abbrev Suite := Addr → Value → Option Addr → TS
def asks (K : PySem.W.Frag) (W : WX) (E : Ends) : List (Value × Nat × Suite) → WX
 | [] => W
 | q :: l => wAs K q.1 q.2.1 q.2.2 (asks K W E l) E
section
variable {X : Cx} {W : WX} {pins : List (Addr × Obj)} {D : Ends}
structure Caught (X : Cx) (pins : List (Addr × Obj)) (σ : St) (H : Hp) (a : Addr) (cls : Value) (d : Option Addr) (B : Heap) (s1 s2 s3 : Shared) : Prop where
 inv : Inv X pins σ H s1
 base : ∀ b o, s1.heap.get? b = some o → b ∉ frs X.stack → B.get? b = some o
 upto : s1.heap.UpToSlots s3.heap
 fly : HandSPX.FlyingZ B (X.env :: X.outer) a (L2N.Zn cls d) s3.heap
 gone : H a = none
 os : s2.os = s1.os
 bare : AllBare s2.gens
theorem Caught.apart {σ : St} {H : Hp} {a : Addr} {cls : Value} {d : Option Addr} {B : Heap} {s1 s2 s3 : Shared} (C : Caught X pins σ H a cls d B s1 s2 s3) (hf : X.env.frame = some X.env.locals) : a ≠ X.env.locals ∧ a ∉ X.fs := by
 obtain ⟨oe, vs, here, _, fields⟩ := C.fly.there
 have off : a ∉ frs (X.env :: X.outer) := fun m => by
  obtain ⟨_, o, there, other⟩ := C.fly.2.2.1.mem m
  rw [here] at there
  cases there
  exact other _ fields
 refine ⟨fun e => off ?_, fun m => off ?_⟩
 · exact List.mem_filterMap.mpr ⟨X.env, List.mem_cons_self, hf.trans (congrArg some e.symm)⟩
 · obtain ⟨env, henv, eq⟩ := List.mem_filterMap.mp m
   exact List.mem_filterMap.mpr ⟨env, List.mem_cons_of_mem _ henv, eq⟩
end
end Ow
namespace Ow
open PySem PySem.Spec PySem.SeqAt PyProof.Rows L2
section
variable {X : Cx} {W : WX} {Z : SC} {Γ Γ1 Γt : Ctx} {n : Nat} {m1 ms : List Nat} {pos : Pos}
end
end Ow
namespace Ow
open PySem PySem.Spec PySem.SeqAt PyProof.Rows L2
section
variable {P : Program} {w : World} {K : PySem.W.Frag} {mg : Str → Option Value} {base : Heap}
end
section
variable {X : Cx} {CX : CXT} {x : Str} {C fI : Addr} {k : Nat} {fd : FuncData} {ps : List Str} {sp : Sp} {e : Expr} {es : List Expr} {ta : TA} {p pos : Pos}
end
end Ow
namespace Ow
open PySem PySem.Spec PySem.SeqAt PyProof.Rows L2
section
variable {X : Cx} {W : WX} {Z : SC} {Γx Γ Γ' Γ1 : Ctx} {n lv : Nat} {m : List Nat} {p pos pos2 : Pos} {e : Expr} {gs : List D → ER (List D)} {g : List D → ER D} {c f : Str} {R : List Lab}
end
section
variable {P : Program} {w : World} {K : PySem.W.Frag} {mg : Str → Option Value} {base : Heap}
end
end Ow
namespace Ow
open PySem PySem.Spec PySem.SeqAt PyProof.Rows L2
section
variable {prog : Program} {w : World} {A : Around} {E : Value → Shared → Prop} {s : Shared}
end
section
variable {X : Cx} {pins : List (Addr × Obj)} {s : Shared} {σ : L2.St} {H : Hp} {Q : VK} {elt tg iter : Expr} {ifs : List Expr} {scope : Scope} {own : List (Str × Nat)} {pos pos' : Pos} {wi : TI} {g : TG} {tt : TT} {te : TE}
end
end Ow
namespace Ow
open PySem PySem.Spec PySem.SeqAt PyProof.Rows L2
section
variable {X : Cx} {pins : List (Addr × Obj)} {σ : L2.St} {Q : VK} {elt tg iter : Expr} {ifs : List Expr} {scope : Scope} {own : List (Str × Nat)} {pos pos' : Pos} {wi : TI} {g : TG} {tt : TT} {te : TE}
end
end Ow
namespace Ow
open PySem PySem.Spec PySem.SeqAt PyProof.Rows L2
section
variable {X : Cx} {elt tg iter : Expr} {ifs : List Expr} {scope : Scope} {own : List (Str × Nat)} {pos spos py : Pos} {wi : TI} {g : TG} {tt : TT} {te : TE} {i : Nat} {y : Str}
end
section
variable {X : Cx} {W : WX} {Z : SC} {Γx Γ Γ' : Ctx} {n : Nat} {m m1 mt me : List Nat} {pos spos py : Pos} {R : List Lab} {k : Kd} {elt tg iter : Expr} {ifs : List Expr} {scope : Scope} {own : List (Str × Nat)} {T : Tg} {vr : List Nat} {gi : List D → ER (List D)} {gt : List D → ER Bool} {ge : List D → ER D} {s0 : Shared} {H0 : Hp} {ce : Env} {fp : List Addr}
end
end Ow
namespace Ow
open PySem PySem.Spec PySem.SeqAt PyProof.Rows L2
section
variable {prog : Program} {w : World} {A : Around} {E : Value → Shared → Prop} {s : Shared}
end
section
variable {X : Cx}
end
section
variable {X : Cx} {W : WX} {Γx Γ : Ctx} {n : Nat} {m : List Nat} {pos p p2 q : Pos} {k : Kd} {ks : List AK} {gs : List D → ER (List D)} {g : List D → ER D} {e : Expr}
end
end Ow
namespace Ow
open PySem PySem.Spec PySem.SeqAt PyProof.Rows L2
section
variable {X : Cx} {W : WX} {Z : SC} {Γx Γ Γ' : Ctx} {n : Nat} {m m1 m2 : List Nat} {pos p : Pos} {R : List Lab} {k : Kd} {tg iter a : Expr} {body : List Stmt} {gi gs : List D → ER (List D)} {G : List D → SO} {T : Tg}
end
end Ow
namespace Ow
open PySem PySem.Spec PySem.SeqAt PyProof.Rows L2
section
variable {X : Cx} {W : WX} {Γx Γ : Ctx} {n r : Nat} {m m1 m2 : List Nat} {pos p p2 px apos cpos pos2 : Pos} {k : Kd} {ks : List AK} {gs : List D → ER (List D)} {g : List D → ER D} {e o : Expr} {x : Str}
end
end Ow
namespace Ow
open PySem PySem.Spec PySem.SeqAt PyProof.Rows L2
section
variable {prog : Program} {w : World} {A : Around} {E : Value → Shared → Prop} {s : Shared}
end
section
variable {X : Cx} {pos : Pos}
end
section
variable {X : Cx} {W : WX} {Z : SC} {Γx Γ Γ' : Ctx} {n r : Nat} {m m1 m2 : List Nat} {pos : Pos} {H H1 : Hp} {lab lab1 : Labs}
end
end Ow
namespace Ow
open PySem PySem.Spec PyProof.Rows L2
section
variable {X : Cx} {W : WX} {Z : SC} {Γ : Ctx} {n : Nat} {m : List Nat} {pos : Pos}
end
end Ow
namespace Ow
open PySem PySem.Spec PySem.SeqAt PyProof.Rows L2
section
variable {X : Cx} {W : WX} {Γ Γx : Ctx} {n lv np : Nat} {x : Str} {p pos : Pos} {own : Ret} {Fd : List D → FR}
end
end Ow
namespace Ow
open PySem PySem.Spec PySem.SeqAt PyProof.Rows L2
theorem RpL.parts {K : PySem.W.Frag} {cl : CE} {H : Hp} : ∀ {vs : List V} {ds : List D} {fp : List Addr}, RpL K cl H vs ds fp → ∃ fs : List (List Addr), fp = fs.flatten ∧ fs.length = ds.length ∧ ∀ (k : Nat) v d f, vs[k]? = some v → ds[k]? = some d → fs[k]? = some f → Rp K cl H v d f
 | _, _, _, .nil => ⟨[], rfl, rfl, fun k v d f h => by simp at h⟩
 | _, _, _, .cons (f1 := f1) h r => by
  obtain ⟨fs, e, l, q⟩ := r.parts
  refine ⟨f1 :: fs, by rw [e]; rfl, by simp [l], fun k v d f a b c => ?_⟩
  cases k with
  | zero => cases a; cases b; cases c; exact h
  | succ k => exact q k v d f a b c
theorem RpL.ofParts {K : PySem.W.Frag} {cl : CE} {H : Hp} : ∀ {vs : List V} {ds : List D} (fs : List (List Addr)), vs.length = ds.length → fs.length = ds.length → (∀ (k : Nat) v d f, vs[k]? = some v → ds[k]? = some d → fs[k]? = some f → Rp K cl H v d f) → RpL K cl H vs ds fs.flatten
 | [], [], [], _, _, _ => .nil
 | v :: vs, d :: ds, f :: fs, h1, h2, q => .cons (q 0 v d f rfl rfl rfl) (RpL.ofParts fs (by simpa using h1) (by simpa using h2) fun k v d f a b c => q (k + 1) v d f a b c)
 | [], d :: ds, _, h, _, _ => by cases h
 | v :: vs, [], _, h, _, _ => by cases h
 | [], [], f :: fs, _, h, _ => by cases h
 | v :: vs, d :: ds, [], _, h, _ => by cases h
theorem set2_get {α : Type} {l : List α} {i j k : Nat} {a b : α} (hi : i < l.length) (hj : j < l.length) : ((l.set i a).set j b)[k]? = if k = j then some b else if k = i then some a else l[k]? := by
 by_cases e : k = j
 · subst e
   rw [if_pos rfl, List.getElem?_set_self (by rw [List.length_set]; exact hj)]
 · rw [if_neg e, List.getElem?_set_ne (Ne.symm e)]
   by_cases e2 : k = i
   · subst e2
     rw [if_pos rfl, List.getElem?_set_self hi]
   · rw [if_neg e2, List.getElem?_set_ne (Ne.symm e2)]
theorem RpL.swap {K : PySem.W.Frag} {cl : CE} {H : Hp} {vs : List V} {ds : List D} {fp : List Addr} (h : RpL K cl H vs ds fp) {i j : Nat} {vi vj : V} {di dj : D} (a : vs[i]? = some vi) (b : vs[j]? = some vj) (c : ds[i]? = some di) (d : ds[j]? = some dj) :
 ∃ f', RpL K cl H ((vs.set i vj).set j vi) ((ds.set i dj).set j di) f' ∧ f'.Perm fp := by
 have len := h.len
 obtain ⟨fs, rfl, l, q⟩ := h.parts
 have ci := (List.getElem?_eq_some_iff.mp c).1
 have cj := (List.getElem?_eq_some_iff.mp d).1
 have li : i < fs.length := by omega
 have lj : j < fs.length := by omega
 refine ⟨_, RpL.ofParts ((fs.set i fs[j]).set j fs[i]) (by simp [len]) (by simp [l]) fun k v w f h1 h2 h3 => ?_, (List.set_set_perm li lj).flatten⟩
 rw [set2_get (by omega) (by omega)] at h1 h2 h3
 by_cases e : k = j
 · rw [if_pos e] at h1 h2 h3
   cases h1; cases h2; cases h3
   exact q i _ _ _ a c (List.getElem?_eq_getElem li)
 · rw [if_neg e] at h1 h2 h3
   by_cases e2 : k = i
   · rw [if_pos e2] at h1 h2 h3
     cases h1; cases h2; cases h3
     exact q j _ _ _ b d (List.getElem?_eq_getElem lj)
   · rw [if_neg e2] at h1 h2 h3
     exact q k v w f h1 h2 h3
section
variable {X : Cx} {W : WX} {Z : SC} {Γ : Ctx} {n r i j : Nat} {pos p1 p2 p3 p4 p5 p6 p7 p8 t1 t2 s1 s2 : Pos} {xs x y : Str} {pt pt2 : Pos} {kt k2} {ki kj : Kd}
end
section
variable {X : Cx} {W : WX} {Z : SC} {Γ : Ctx} {n i : Nat} {m : List Nat} {pos px : Pos} {x : Str} {e : Expr} {g : List D → ER D} {k k1 : Kd}
end
end Ow
namespace Ow
open PySem PySem.Spec PySem.SeqAt PyProof.Rows L2
section
variable {X : Cx} {W : WX} {Z : SC} {Γx Γ Γ' Γ1 Γ2 : Ctx} {n i : Nat} {m m1 m2 m3 : List Nat} {pos p px : Pos} {R : List Lab} {f x : Str} {e a b c : Expr} {g ga gb : List D → ER D} {tg : List D → ER Bool} {k : Kd}
end
end Ow
namespace Ow
open PySem PySem.Spec PySem.SeqAt PyProof.Rows L2
def dCatS : D → D → Option D
 | .str a, .str b => if a.length + b.length ≤ sizeLine then some (.str (a ++ b)) else none
 | _, _ => none
def fStrI : List D → Option D
 | [.int i] => if i.natAbs.log2 < 1920 then some (.str (toString i)) else none
 | _ => none
section
variable {X : Cx} {W : WX} {Γx Γ : Ctx} {n : Nat} {m m1 m2 m3 : List Nat} {pos p : Pos} {a b e o tg : Expr} {g ga gb : List D → ER D} {gs : List D → ER (List D)} {k k1 : Kd} {ks : List AK}
end
end Ow
namespace Ow
open PySem PySem.Spec PySem.SeqAt PyProof.Rows L2
section
variable {X : Cx} {W : WX} {Γx Γ : Ctx} {n : Nat} {m m1 m2 : List Nat} {pos p1 p2 p3 : Pos} {a b e : Expr} {g ga gb : List D → ER D} {k k1 : Kd}
end
end Ow
namespace Ow
open PySem PySem.Spec PySem.SeqAt PyProof.Rows L2
theorem Cx.Ok.any {Y : Cx} {E' : Value → Shared → Prop} (k : Y.Ok) : ({ Y with xe := E' } : Cx).Ok := ⟨k.mod, k.kind, k.glob, k.blt, k.above, k.inj, k.has, k.cab, k.hd, k.frames, k.stk, k.exf, k.bs, k.bsz, k.noex, k.exfs, k.funs, k.frf⟩
theorem Inv.any {Y : Cx} {E' : Value → Shared → Prop} {pins : List (Addr × Obj)} {σ : L2.St} {H : Hp} {s : Shared} (i : L2.Inv Y pins σ H s) : L2.Inv { Y with xe := E' } pins σ H s := ⟨Cx.Ok.any i.ok, i.os, i.bare, i.base, i.loc, i.cell, i.free, i.freeC, i.pin, i.hok, i.len⟩
theorem Cx.Ok.back {Y : Cx} {E' : Value → Shared → Prop} (k : ({ Y with xe := E' } : Cx).Ok) : Y.Ok := ⟨k.mod, k.kind, k.glob, k.blt, k.above, k.inj, k.has, k.cab, k.hd, k.frames, k.stk, k.exf, k.bs, k.bsz, k.noex, k.exfs, k.funs, k.frf⟩
theorem Inv.back {Y : Cx} {E' : Value → Shared → Prop} {pins : List (Addr × Obj)} {σ : L2.St} {H : Hp} {s : Shared} (i : L2.Inv { Y with xe := E' } pins σ H s) : L2.Inv Y pins σ H s := ⟨Cx.Ok.back i.ok, i.os, i.bare, i.base, i.loc, i.cell, i.free, i.freeC, i.pin, i.hok, i.len⟩
section
variable {X : Cx} {W : WX} {pins : List (Addr × Obj)} {σ : L2.St} {H H3 : Hp} {Q : VK} {s3 : Shared} {elt tg iter : Expr} {ifs : List Expr} {scope : Scope} {own : List (Str × Nat)} {pos pos' : Pos} {wi : TI} {g : TG} {tt : TT} {te : WX → TE} {fp : List Addr} {ce : Env} {E' : Value → Shared → Prop}
end
end Ow
namespace Ow
open PySem PySem.Spec PyProof.Rows L2
section
variable {X X' : Cx} {W : WX} {Γx Γ Γ' : Ctx} {n : Nat} {m m1 m2 mt me : List Nat} {σ : St} {H : Hp} {lab : Labs} {σD : List D} {pos : Pos} {R R2 : List Lab} {fx : Nat → V} {io vs : List Nat}
end
section
variable {X : Cx} {W : WX} {Z : SC} {Γx Γ Γ' : Ctx} {n : Nat} {m1 mt me : List Nat} {pos spos py : Pos} {R : List Lab} {k : Kd} {elt tg iter : Expr} {ifs : List Expr} {scope : Scope} {own : List (Str × Nat)} {T : Tg} {gi : List D → ER (List D)} {gt : List D → ER Bool} {ge : List D → ER D}
end
end Ow
namespace Ow
open PySem PySem.Spec PySem.SeqAt PyProof.Rows L2
def isInt : D → Bool
 | .int _ => true
 | _ => false
theorem RpL.whole {K : PySem.W.Frag} {cl : CE} {H : Hp} : ∀ {vs : List V} {ds : List D} {fp : List Addr}, RpL K cl H vs ds fp → ds.all isInt = true → ∃ ns : List Int, vs = ns.map V.int ∧ ds = ns.map D.int
 | _, _, _, .nil, _ => ⟨[], rfl, rfl⟩
 | _, _, _, .cons h r, e => by
  rw [List.all_cons, Bool.and_eq_true] at e
  obtain ⟨ns, e1, e2⟩ := RpL.whole r e.2
  cases h with
  | int i => exact ⟨i :: ns, by rw [e1]; rfl, by rw [e2]; rfl⟩
  | _ => cases e.1
section
variable {X : Cx} {W : WX} {Γx Γ : Ctx} {n : Nat} {m : List Nat} {pos p : Pos} {e : Expr} {gs : List D → ER (List D)} {ks : List AK}
end
end Ow
namespace Ow
open PySem PySem.Spec PySem.SeqAt PyProof.Rows L2
end Ow
namespace Ow
open PySem PySem.Spec PySem.SeqAt PyProof.Rows L2
section
variable {X : Cx} {W : WX} {Z : SC} {Γx Γ Γ1 Γt : Ctx} {n : Nat} {m m1 m2 : List Nat} {pos p px apos cpos : Pos} {k k1 k2 : Kd} {e f : Expr} {x : Str} {ge gf : List D → ER D}
end
section
variable {P : Program} {w : World} {K : PySem.W.Frag} {mg : Str → Option Value} {base : Heap}
end
section
variable {X : Cx} {W : WX} {Z : SC} {Γ : Ctx} {n : Nat} {m : List Nat} {pos : Pos}
end
end Ow
namespace Ow
open PySem PySem.Spec PySem.SeqAt PyProof.Rows L2
section
variable {P : Program} {w : World} {K : PySem.W.Frag} {mg : Str → Option Value} {base : Heap}
end
section
variable {X : Cx} {W : WX} {Γx Γ : Ctx} {n lv np : Nat} {m : List Nat} {ks : List AK} {rs io : List Nat} {own : Ret} {Fd : List D → FR} {f : Addr} {fd : FuncData} {ps : List Str} {x : Str} {p pos : Pos} {e : Expr} {es : List Expr} {gs : List D → ER (List D)}
end
section
variable {X : Cx} {W : WX} {Γx Γ : Ctx} {n : Nat} {m : List Nat} {ks : List AK} {p pos : Pos} {e : Expr} {gs : List D → ER (List D)}
end
end Ow
namespace Ow
open PySem PySem.Spec PySem.SeqAt PyProof.Rows L2
section
variable {X : Cx} {W : WX} {Γx Γ : Ctx} {n : Nat} {m : List Nat} {ks : List AK} {p pos : Pos} {e : Expr} {gs : List D → ER (List D)}
end
section
variable {P : Program} {w : World} {K : PySem.W.Frag} {mg mb : Str → Option Value}
end
end Ow
namespace Ow
open PySem PySem.Spec PyProof.Rows L2
section
variable {X : Cx} {W : WX} {Γx Γ : Ctx} {n : Nat} {m1 m2 : List Nat} {pos : Pos} {a b : Expr} {ga gb : List D → ER D} {k k1 : Kd}
end
end Ow
namespace Ow
open PySem PySem.Spec PyProof.Rows L2
section
variable {X : Cx} {W : WX} {Z : SC} {Γx Γ Γ' : Ctx} {n r i c : Nat} {m m1 m2 : List Nat} {σ : St} {H : Hp} {lab : Labs} {σD : List D} {pos p px py apos ipos : Pos} {nx ny : Str}
end
end Ow
namespace Ow
open PySem PySem.Spec PyProof.Rows L2
section
variable {X : Cx} {W : WX} {Γx Γ : Ctx} {n : Nat} {m1 m2 : List Nat} {pos : Pos} {a b : Expr} {rest : List Expr} {ga gb : List D → ER D} {k k1 : Kd}
end
end Ow
namespace Ow
open PySem PySem.Spec PyProof.Rows L2
section
variable {X : Cx} {W : WX} {Γx Γ Γ1 : Ctx} {n i : Nat} {m2 : List Nat} {pos : Pos} {x : Str} {es : List Expr} {gs : List D → ER (List D)} {ks : List AK}
end
end Ow
namespace Ow
open PySem PySem.Spec PyProof.Rows L2
section
variable {X : Cx} {W : WX} {Z : SC} {Γx Γ Γ' Γ1 Γ2 Γt : Ctx} {n : Nat} {m m1 m2 : List Nat} {pos pos' np : Pos} {H : Hp} {lab : Labs}
theorem PostS.unlike {X' : Cx} (L : Like X X') {fx : Nat → V} {E : Ends} {r : SO} (h1 : noX Γ1 = true) (h2 : noX Z.Γr = true) (h3 : noX Z.Γb = true)
 (po : PostS X W Z fx Γ1 m n H lab E r) (hne : ∀ c p σ, r ≠ .exc c p σ) {W' : WX} {Γx' : Ctx} : PostS X' W' { Z with Γx := Γx' } fx Γ1 m n H lab E r := by
 cases r with
 | stuck => exact po
 | nxt σ1 => exact fun σ' H' lab' s p => po _ H' lab' (s.like L.symm h1) p
 | ret d σ1 => exact fun v σ' H' lab' j s p r => po v σ' H' lab' j (s.like L.symm h2) p (L.symm.vr r fun R z => by
  have z : retK Z.own = .exc R := z
  unfold retK at z
  split at z <;> cases z)
 | exc c p σ1 => exact absurd rfl (hne c p σ1)
 | brk σ1 => exact fun σ' H' lab' s p => po _ H' lab' (s.like L.symm h3) p
 | cnt σ1 => exact fun σ' H' lab' s p => po _ H' lab' (s.like L.symm h3) p
end
end Ow
namespace Ow
open PySem PySem.Spec PyProof.Rows L2
section
variable {X : Cx} {W : WX} {Γx Γ : Ctx} {n r c : Nat} {m2 : List Nat} {σ : St} {H : Hp} {pos p px apos ipos : Pos} {ks : List AK} {gs : List D → ER (List D)} {e : Expr} {nx : Str}
end
end Ow
namespace Ow
open PySem PySem.Spec PyProof.Rows L2
def tgsN (K : PySem.W.Frag) : List Tg → TGs
 | [] => gNil
 | T :: Ts => gCons (tgR K T) (tgsN K Ts)
def slotsN : List Tg → List Nat
 | [] => []
 | T :: Ts => T.slots ++ slotsN Ts
inductive FlatV (K : PySem.W.Frag) (H : Hp) : List Tg → List V → List V → Prop
 | nil : FlatV K H [] [] []
 | nm {i : Nat} {v : V} {Ts : List Tg} {vs ws : List V} (h : FlatV K H Ts vs ws) : FlatV K H (.nm i :: Ts) (v :: vs) (v :: ws)
 | tp {is : List Nat} {a : Addr} {xs : List V} {Ts : List Tg} {vs ws : List V} (hT : SqT K H a xs) (hl : xs.length = is.length) (h : FlatV K H Ts vs ws) : FlatV K H (.tp is :: Ts) (.ref a :: vs) (xs ++ ws)
theorem tgs_mono {P P' : St → Hp → Prop} {H : Hp} (h : ∀ σ' H', P σ' H' → P' σ' H') : ∀ (is : List Nat) (xs : List V) (σ : St), tgs is xs σ H P → tgs is xs σ H P'
 | [], _, _, ⟨e, q⟩ => ⟨e, h _ _ q⟩
 | _ :: is, _, _, ⟨v, r, e, q⟩ => ⟨v, r, e, tgs_mono h is r _ q⟩
theorem tgs_split {js : List Nat} {ys : List V} {H : Hp} {Q : St → Hp → Prop} : ∀ (is : List Nat) (xs : List V) (σ : St), xs.length = is.length → tgs (is ++ js) (xs ++ ys) σ H Q → tgs is xs σ H fun σ' H' => H' = H ∧ tgs js ys σ' H' Q
 | [], [], _, _, h => ⟨rfl, rfl, h⟩
 | [], _ :: _, _, e, _ => by cases e
 | _ :: _, [], _, e, _ => by cases e
 | i :: is, x :: xs, σ, e, h => by
  obtain ⟨v, r, er, q⟩ := h
  injection er with e1 e2
  subst e1 e2
  exact ⟨x, xs, rfl, tgs_split is xs _ (by simpa using e) q⟩
theorem FlatV.tgs {K : PySem.W.Frag} {H : Hp} {Q : St → Hp → Prop} {Ts : List Tg} {vs ws : List V} (h : FlatV K H Ts vs ws) : ∀ σ : St, Ow.tgs (slotsN Ts) ws σ H Q → tgsN K Ts vs σ H Q := by
 induction h with
 | nil => exact fun σ q => q
 | nm h ih =>
  intro σ q
  obtain ⟨v, r, er, q⟩ := q
  injection er with e1 e2
  subst e1 e2
  exact ⟨_, _, rfl, ih _ q⟩
 | tp hT hl h ih =>
  intro σ q
  refine ⟨_, _, rfl, _, _, rfl, hT, hl, tgs_mono (fun σ' H' w => ?_) _ _ _ (tgs_split _ _ σ hl q)⟩
  obtain ⟨rfl, w⟩ := w
  exact ih σ' w
theorem FlatV.len {K : PySem.W.Frag} {H : Hp} {Ts : List Tg} {vs ws : List V} (h : FlatV K H Ts vs ws) : vs.length = Ts.length := by
 induction h with
 | nil => rfl
 | nm _ ih => simp [ih]
 | tp _ _ _ ih => simp [ih]
section
variable {X : Cx} {W : WX} {Z : SC} {Γ : Ctx} {n : Nat} {m : List Nat} {pos : Pos}
end
end Ow
namespace Ow
open PySem PySem.Spec PyProof.Rows L2
section
variable {X : Cx} {W : WX} {Γx Γ : Ctx} {n r c c2 : Nat} {m2 : List Nat} {σ : St} {H : Hp} {pos p p2 px apos ipos ipos2 : Pos} {ks : List AK} {gs : List D → ER (List D)} {e : Expr} {nx : Str}
end
end Ow
namespace Ow
open PySem PySem.Spec PyProof.Rows L2
section
variable {X : Cx} {W : WX} {Γx Γ : Ctx} {n : Nat} {m : List Nat} {k : Kd}
end
def getP : List Nat → D → Option D
 | [], d => some d
 | c :: cs, .tup ds => (match ds[c]? with
  | some x => getP cs x
  | none => none)
 | c :: cs, .lst ds => (match ds[c]? with
  | some x => getP cs x
  | none => none)
 | _ :: _, _ => none
def setP : List Nat → D → D → D
 | [], _, x => x
 | c :: cs, .tup ds, x => .tup (ds.set c (setP cs (ds.getD c .non) x))
 | c :: cs, .lst ds, x => .lst (ds.set c (setP cs (ds.getD c .non) x))
 | _ :: _, d, _ => d
section
variable (K : PySem.W.Frag) (cl : CE) (H : Hp)
mutual
inductive RpP : List Nat → V → D → List Addr → V → D → List Addr → Prop
 | nil {v : V} {d : D} {fp : List Addr} (r : Rp K cl H v d fp) : RpP [] v d fp v d fp
 | tup {a : Addr} {vs : List V} {ds : List D} {fp fq : List Addr} {c : Nat} {cs : List Nat} {w : V} {x : D} (h : SqT K H a vs) (r : RpQ c cs vs ds fp w x fq) : RpP (c :: cs) (.ref a) (.tup ds) fp w x fq
 | lst {a : Addr} {vs : List V} {ds : List D} {fp fq : List Addr} {c : Nat} {cs : List Nat} {w : V} {x : D} (h : H a = some (.lst vs)) (r : RpQ c cs vs ds fp w x fq) : RpP (c :: cs) (.ref a) (.lst ds) (a :: fp) w x fq
inductive RpQ : Nat → List Nat → List V → List D → List Addr → V → D → List Addr → Prop
 | here {v : V} {d : D} {f1 f2 fq : List Addr} {vs : List V} {ds : List D} {cs : List Nat} {w : V} {x : D} (r : RpP cs v d f1 w x fq) (rr : RpL K cl H vs ds f2) : RpQ 0 cs (v :: vs) (d :: ds) (f1 ++ f2) w x fq
 | there {v : V} {d : D} {f1 f2 fq : List Addr} {vs : List V} {ds : List D} {c : Nat} {cs : List Nat} {w : V} {x : D} (h : Rp K cl H v d f1) (r : RpQ c cs vs ds f2 w x fq) : RpQ (c + 1) cs (v :: vs) (d :: ds) (f1 ++ f2) w x fq
end
end
section
variable {K : PySem.W.Frag} {cl : CE} {H H' : Hp}
mutual
theorem RpP.whole : ∀ {p : List Nat} {v : V} {d : D} {fp : List Addr} {w : V} {x : D} {fq : List Addr}, RpP K cl H p v d fp w x fq → Rp K cl H v d fp
 | _, _, _, _, _, _, _, .nil r => r
 | _, _, _, _, _, _, _, .tup h r => .tup h r.whole
 | _, _, _, _, _, _, _, .lst h r => .lst h r.whole
theorem RpQ.whole : ∀ {c : Nat} {cs : List Nat} {vs : List V} {ds : List D} {fp : List Addr} {w : V} {x : D} {fq : List Addr}, RpQ K cl H c cs vs ds fp w x fq → RpL K cl H vs ds fp
 | _, _, _, _, _, _, _, _, .here r rr => .cons r.whole rr
 | _, _, _, _, _, _, _, _, .there h r => .cons h r.whole
end
mutual
theorem RpP.end_ : ∀ {p : List Nat} {v : V} {d : D} {fp : List Addr} {w : V} {x : D} {fq : List Addr}, RpP K cl H p v d fp w x fq → Rp K cl H w x fq ∧ (∀ b ∈ fq, b ∈ fp) ∧ (fp.Nodup → fq.Nodup) ∧ getP p d = some x
 | _, _, _, _, _, _, _, .nil r => ⟨r, fun _ h => h, id, rfl⟩
 | _, _, _, _, _, _, _, .tup h r => r.end_
 | _, _, _, _, _, _, _, .lst h r => ⟨r.end_.1, fun b hb => List.mem_cons_of_mem _ (r.end_.2.1 b hb), fun nd => r.end_.2.2.1 (List.nodup_cons.mp nd).2, r.end_.2.2.2⟩
theorem RpQ.end_ : ∀ {c : Nat} {cs : List Nat} {vs : List V} {ds : List D} {fp : List Addr} {w : V} {x : D} {fq : List Addr}, RpQ K cl H c cs vs ds fp w x fq → Rp K cl H w x fq ∧ (∀ b ∈ fq, b ∈ fp) ∧ (fp.Nodup → fq.Nodup) ∧ getP (c :: cs) (.tup ds) = some x
 | _, _, _, _, _, _, _, _, .here r rr => ⟨r.end_.1, fun b hb => List.mem_append_left _ (r.end_.2.1 b hb), fun nd => r.end_.2.2.1 (List.nodup_append.mp nd).1, r.end_.2.2.2⟩
 | _, _, _, _, _, _, _, _, .there h r => ⟨r.end_.1, fun b hb => List.mem_append_right _ (r.end_.2.1 b hb), fun nd => r.end_.2.2.1 (List.nodup_append.mp nd).2.1, by
  have := r.end_.2.2.2
  unfold getP at this ⊢
  rwa [List.getElem?_cons_succ]⟩
end
theorem RpQ.at_ : ∀ {c : Nat} {cs : List Nat} {vs : List V} {ds : List D} {fp : List Addr} {w : V} {x : D} {fq : List Addr}, RpQ K cl H c cs vs ds fp w x fq → ∃ v d f0, vs[c]? = some v ∧ ds[c]? = some d ∧ RpP K cl H cs v d f0 w x fq
 | _, _, _, _, _, _, _, _, .here r rr => ⟨_, _, _, rfl, rfl, r⟩
 | _, _, _, _, _, _, _, _, .there h r => by
  obtain ⟨v, d, f0, a, b, c⟩ := r.at_
  exact ⟨v, d, f0, by rw [List.getElem?_cons_succ]; exact a, by rw [List.getElem?_cons_succ]; exact b, c⟩
mutual
theorem RpP.ext (tk : TK H H') : ∀ {p : List Nat} {v : V} {d : D} {fp : List Addr} {w : V} {x : D} {fq : List Addr}, RpP K cl H p v d fp w x fq → (∀ a ∈ fp, H' a = H a) → RpP K cl H' p v d fp w x fq
 | _, _, _, _, _, _, _, .nil r, e => .nil (r.ext tk e)
 | _, _, _, _, _, _, _, .tup h r, e => .tup (tk.sqt h) (RpQ.ext tk r e)
 | _, _, _, _, _, _, _, .lst h r, e => .lst ((e _ List.mem_cons_self).trans h) (RpQ.ext tk r fun a ha => e a (List.mem_cons_of_mem _ ha))
theorem RpQ.ext (tk : TK H H') : ∀ {c : Nat} {cs : List Nat} {vs : List V} {ds : List D} {fp : List Addr} {w : V} {x : D} {fq : List Addr}, RpQ K cl H c cs vs ds fp w x fq → (∀ a ∈ fp, H' a = H a) → RpQ K cl H' c cs vs ds fp w x fq
 | _, _, _, _, _, _, _, _, .here r rr, e => .here (RpP.ext tk r fun a ha => e a (List.mem_append_left _ ha)) (rr.ext tk fun a ha => e a (List.mem_append_right _ ha))
 | _, _, _, _, _, _, _, _, .there h r, e => .there (h.ext tk fun a ha => e a (List.mem_append_left _ ha)) (RpQ.ext tk r fun a ha => e a (List.mem_append_right _ ha))
end
structure MutB (K : PySem.W.Frag) (cl : CE) (H : Hp) (b : Addr) (o : HO) (w : V) (c : D) (f' fq fp : List Addr) : Prop where
 hb : b ∈ fq
 hu : ∃ u, H b = some u ∧ isMut u
 rc : Rp K cl (upd H b o) w c f'
 nd : f'.Nodup
 hs : ∀ y ∈ f', y ∈ fq ∨ y ∉ fp
theorem MutB.less {b : Addr} {o : HO} {w : V} {c : D} {f' fq fp fp' : List Addr} (m : MutB K cl H b o w c f' fq fp) (h : ∀ y ∈ fp', y ∈ fp) : MutB K cl H b o w c f' fq fp' := ⟨m.hb, m.hu, m.rc, m.nd, fun y hy => (m.hs y hy).imp id fun q w => q (h y w)⟩
mutual
theorem RpP.mut {b : Addr} {o : HO} {c : D} {f' : List Addr} : ∀ {p : List Nat} {v : V} {d : D} {fp : List Addr} {w : V} {x : D} {fq : List Addr}, RpP K cl H p v d fp w x fq → fp.Nodup → MutB K cl H b o w c f' fq fp →
 ∃ F, RpP K cl (upd H b o) p v (setP p d c) F w c f' ∧ F.Nodup ∧ ∀ y ∈ F, y ∈ f' ∨ (y ∈ fp ∧ y ∉ fq)
 | _, _, _, _, _, _, _, .nil r, nd, m => ⟨f', .nil m.rc, m.nd, fun y hy => .inl hy⟩
 | _, _, _, _, _, _, _, .tup h r, nd, m => by
  obtain ⟨F, rF, nF, sF⟩ := RpQ.mut r nd m
  obtain ⟨u, hu1, hu2⟩ := m.hu
  exact ⟨F, .tup ((TK.mut hu1 hu2).sqt h) rF, nF, sF⟩
 | _, _, _, _, _, _, _, .lst (a := a) (fp := fp1) (fq := fq) h r, nd, m => by
  obtain ⟨na, nd1⟩ := List.nodup_cons.mp nd
  obtain ⟨F, rF, nF, sF⟩ := RpQ.mut r nd1 (m.less fun y hy => List.mem_cons_of_mem _ hy)
  have naq : a ∉ fq := fun q => na (r.end_.2.1 a q)
  have hba : a ≠ b := fun q => naq (q ▸ m.hb)
  refine ⟨a :: F, .lst (by rw [upd_ne hba, h]) rF, List.nodup_cons.mpr ⟨fun q => ?_, nF⟩, fun z hz => ?_⟩
  · rcases sF a q with q | q
    · exact (m.hs a q).elim naq fun w => w List.mem_cons_self
    · exact na q.1
  · rcases List.mem_cons.mp hz with q | q
    · exact .inr ⟨by rw [q]; exact List.mem_cons_self, fun w => naq (by rw [← q]; exact w)⟩
    · exact (sF z q).imp id fun q => ⟨List.mem_cons_of_mem _ q.1, q.2⟩
theorem RpQ.mut {b : Addr} {o : HO} {c : D} {f' : List Addr} : ∀ {q : Nat} {cs : List Nat} {vs : List V} {ds : List D} {fp : List Addr} {w : V} {x : D} {fq : List Addr}, RpQ K cl H q cs vs ds fp w x fq → fp.Nodup → MutB K cl H b o w c f' fq fp →
 ∃ F, RpQ K cl (upd H b o) q cs vs (ds.set q (setP cs (ds.getD q .non) c)) F w c f' ∧ F.Nodup ∧ ∀ y ∈ F, y ∈ f' ∨ (y ∈ fp ∧ y ∉ fq)
 | _, _, _, _, _, _, _, _, .here (f1 := f1) (f2 := f2) (fq := fq) r rr, nd, m => by
  obtain ⟨a1, a2, a3⟩ := List.nodup_append.mp nd
  obtain ⟨F, rF, nF, sF⟩ := RpP.mut r a1 (m.less fun y hy => List.mem_append_left _ hy)
  have sq := r.end_.2.1
  refine ⟨F ++ f2, .here rF (rr.disj (fun z => a3 b (sq b m.hb) b z rfl) m.hu), List.nodup_append.mpr ⟨nF, a2, fun y hy z hz e => ?_⟩, fun y hy => ?_⟩
  · subst e
    rcases sF y hy with q | q
    · exact (m.hs y q).elim (fun w => a3 y (sq y w) y hz rfl) fun w => w (List.mem_append_right _ hz)
    · exact a3 y q.1 y hz rfl
  · rcases List.mem_append.mp hy with q | q
    · exact (sF y q).imp id fun q => ⟨List.mem_append_left _ q.1, q.2⟩
    · exact .inr ⟨List.mem_append_right _ q, fun w => a3 y (sq y w) y q rfl⟩
 | _, _, _, _, _, _, _, _, .there (f1 := f1) (f2 := f2) (fq := fq) h r, nd, m => by
  obtain ⟨a1, a2, a3⟩ := List.nodup_append.mp nd
  obtain ⟨F, rF, nF, sF⟩ := RpQ.mut r a2 (m.less fun y hy => List.mem_append_right _ hy)
  have sq := r.end_.2.1
  have dj : ∀ y ∈ f1, y ∉ fq := fun y hy w => a3 y hy y (sq y w) rfl
  refine ⟨f1 ++ F, .there (h.disj (fun z => dj b z m.hb) m.hu) rF, List.nodup_append.mpr ⟨a1, nF, fun y hy z hz e => ?_⟩, fun y hy => ?_⟩
  · subst e
    rcases sF y hz with q | q
    · exact (m.hs y q).elim (dj y hy) fun w => w (List.mem_append_left _ hy)
    · exact a3 y hy y q.1 rfl
  · rcases List.mem_append.mp hy with q | q
    · exact .inr ⟨List.mem_append_left _ q, dj y q⟩
    · exact (sF y q).imp id fun q => ⟨List.mem_append_right _ q.1, q.2⟩
end
mutual
theorem RpP.of : ∀ (p : List Nat) {v : V} {d : D} {fp : List Addr} {x : D}, Rp K cl H v d fp → getP p d = some x → ∃ w fq, RpP K cl H p v d fp w x fq
 | [], v, d, fp, x, r, e => by
  cases e
  exact ⟨v, fp, .nil r⟩
 | c :: cs, v, d, fp, x, r, e => by
  cases r with
  | tup h rl =>
   unfold getP at e
   split at e
   · rename_i y ey
     obtain ⟨w, fq, q⟩ := RpQ.of c cs rl ey e
     exact ⟨w, fq, .tup h q⟩
   · cases e
  | lst h rl =>
   unfold getP at e
   split at e
   · rename_i y ey
     obtain ⟨w, fq, q⟩ := RpQ.of c cs rl ey e
     exact ⟨w, fq, .lst h q⟩
   · cases e
  | _ => unfold getP at e; cases e
theorem RpQ.of : ∀ (c : Nat) (cs : List Nat) {vs : List V} {ds : List D} {fp : List Addr} {y x : D}, RpL K cl H vs ds fp → ds[c]? = some y → getP cs y = some x → ∃ w fq, RpQ K cl H c cs vs ds fp w x fq
 | _, _, _, _, _, _, _, .nil, e, _ => by simp at e
 | 0, cs, _, _, _, _, _, .cons h rr, e, e2 => by
  cases e
  obtain ⟨w, fq, q⟩ := RpP.of cs h e2
  exact ⟨w, fq, .here q rr⟩
 | c + 1, cs, _, _, _, _, _, .cons h rr, e, e2 => by
  obtain ⟨w, fq, q⟩ := RpQ.of c cs rr e e2
  exact ⟨w, fq, .there h q⟩
end
end
section
variable {X : Cx} {W : WX} {Γx Γ : Ctx} {Z : SC} {n r x i c1 c2 : Nat} {m m1 m2 p : List Nat} {σ : St} {H : Hp} {lab : Labs} {σD : List D} {a : Addr} {vs : List V} {root : V} {ks : List AK} {gs : List D → ER (List D)} {e tg : Expr} {nx : Str} {px apos pos tpos : Pos}
open Classical in
end
end Ow
namespace Ow
open PySem PySem.Spec PyProof.Rows L2
section
variable {X : Cx} {W : WX} {Z : SC} {Γx Γ Γ' Γ1 : Ctx} {n r : Nat} {m m1 m2 : List Nat} {σ : St} {H : Hp} {lab : Labs} {σD : List D} {pos : Pos} {k0 : Kd} {R R0 : List Lab}
section
variable {x : Str} {px apos : Pos} {ks : List AK} {gs : List D → ER (List D)} {e e2 : Expr}
end
end
end Ow
namespace Ow
open PySem PySem.Spec PyProof.Rows L2
section
variable (X : Cx) (W : WX) (Γx Γ : Ctx) (n : Nat) (m : List Nat)
end
section
variable {X : Cx} {W : WX} {Γx Γ : Ctx} {n : Nat} {m m1 m2 : List Nat} {keys : List (Option Expr)} {ks : List Key} {es : List Expr} {gs : List D → ER (List D)} {g : List D → ER D} {ke e : Expr} {k : Key} {pos : Pos}
end
section
variable {X : Cx} {W : WX} {Γx Γ : Ctx} {n : Nat} {m : List Nat} {pos p : Pos} {e : Expr} {gs : List D → ER (List D)} {ks : List AK}
end
theorem sum_tup {prog : Program} {w : World} {A : Around} {E : Value → Shared → Prop} {s : Shared} {t : Addr} {its : List Value} {ns : List Int} {Q : Value → Shared → Prop} (hh : A.handled = none) (ht : s.heap.IsTuple t its.toArray) (hi : IntsAre its ns)
 (h : ∀ h' tk t', (∀ b o, s.heap.get? b = some o → h'.get? b = some o) → Q (.int ns.sum t') { s with heap := h', toks := tk }) : wpAny (model prog w) A (call (.builtin "sum") [.ref t]) Q E s := by
 obtain ⟨xs, e⟩ := hi.allInts.items
 have hn : numsOf (intItems xs).toList = ns := by rw [← e]; exact hi.numsOf
 rw [nums_intItems] at hn
 rw [e] at ht
 refine PySem.W.ktm_sumG hh ht fun h' tk t' hk => ?_
 have := h h' tk t' hk
 rw [preSum_eq, List.take_of_length_le (by simp), hn]
 exact this
def fSumT : List D → Option D
 | [.tup ds] => if ds.all isI = true then some (.int (ds.map toI).sum) else none
 | _ => none
section
variable {X : Cx} {W : WX} {Γx Γ : Ctx} {n : Nat} {m : List Nat} {pos p : Pos} {e : Expr} {gs : List D → ER (List D)} {ks : List AK}
theorem cr_sumT (hc : X.calm = true) : CallR X (.builtin "sum") (fun vs H Q => ∃ (a : Addr) (ns : List Int), vs = [V.ref a] ∧ SqT X.K H a (ns.map V.int) ∧ Q (.int ns.sum) H) := by
 intro pins s σ H vs us Q I r h
 obtain ⟨a, ns, rfl, hs, q⟩ := h
 obtain ⟨its, rv, ⟨ob, h1, h2, n, h3⟩, _⟩ := Inv.tuple I hs
 rw [Vals.ref1 r]
 exact sum_tup (I.ok.hd hc) ⟨ob, h1, h2, n, h3⟩ (intsAre_of rv) fun h' tk t' hk => ⟨.int _, H, I.kept hk, ⟨_, rfl⟩, q⟩
theorem sc_sumT : ScalCall X fSumT (fun vs H Q => ∃ (a : Addr) (ns : List Int), vs = [V.ref a] ∧ SqT X.K H a (ns.map V.int) ∧ Q (.int ns.sum) H) := fun ds z e => by
 unfold fSumT at e
 split at e
 · split at e
   · rename_i hb
     cases e
     refine ⟨_, .int _, fun H vs fp Q r q => ?_⟩
     obtain ⟨v, f, rfl, rr⟩ := r.one_inv
     cases rr with
     | tup h r =>
      obtain ⟨bs, e1, e2⟩ := r.ints hb
      subst e1 e2
      refine ⟨_, bs, rfl, h, ?_⟩
      have : (bs.map D.int).map toI = bs := by rw [List.map_map]; exact List.map_id _
      rw [this] at q; exact q
   · cases e
 · cases e
theorem ej_sumT (hc : X.calm = true) (hm : X.mg "sum" = none) (ha : AJ X W Γx Γ n m [e] gs ks) (hg : Gl X "sum" := by rfl) (ho : ks.all valA = true := by rfl) (he : starEach [e] X.env = [(false, eval e X.env)] := by rfl) : EJ X W Γx Γ n m (.Call (.Name "sum" p) [e] [] pos) (eCall1 fSumT gs) .own :=
 ej_callB sc_sumT (cr_sumT hc) hg hm boot_sum ha ho (by decide) (by decide) he rfl
end
end Ow
namespace Ow
open PySem PySem.Spec PyProof.Rows L2
def ukey : D → Option KeyU
 | .int i => some (.inl (.inl i))
 | .str s => some (.inl (.inr s))
 | _ => none
def uD : KeyU → D
 | .inl q => keyD q
 | .inr l => .tup (l.map D.int)
def fzFind (ks : List KeyU) (ds : List D) (q : KeyU) : Option D := ((ks.zip ds).find? fun p => decide (p.1 = q)).map (·.2)
def isInl : KeyU → Bool
 | .inl _ => true
 | .inr _ => false
section
variable {K : PySem.W.Frag} {cl : CE} {H : Hp}
end
def asFz : D → Option (List KeyU × List D)
 | .dK kds => some (kds.map (fun kv => (.inl kv.1 : KeyU)), kds.map (·.2))
 | .fzd ks ds => if ks.all isInl = true then some (ks, ds) else none
 | _ => none
section
variable {X : Cx} {W : WX} {Z : SC} {Γx Γ Γ' : Ctx} {n r : Nat} {m m1 m2 m3 : List Nat} {pos p px apos cpos ipos tpos : Pos} {k k1 k2 : Kd} {tg a b e f ie : Expr} {x : Str} {g gi ge gf gv ga gb : List D → ER D} {gs : List D → ER (List D)} {ks : List AK}
def pairD : D → Option (Key × D)
 | .tup [k, v] => if v.flat = true then k.key.map fun q => (q, v) else none
 | _ => none
def pairsD : List D → Option (List (Key × D))
 | [] => some []
 | d :: ds => (pairD d).bind fun p => (pairsD ds).map fun ps => p :: ps
def fDictP : List D → Option D
 | [.lst ds] => (pairsD ds).bind fun ps => if (ps.map (·.1)).Nodup then some (.fzd (ps.map fun kv => (.inl kv.1 : KeyU)) (ps.map (·.2))) else none
 | _ => none
def fDictC : List D → Option D
 | [d] => (asFz d).bind fun p => if D.flats p.2 = true then some (.dK ((p.1.filterMap fun u => match u with | .inl q => some q | .inr _ => none).zip p.2)) else none
 | _ => none
def fGetU (d y z : D) : Option D := (asFz d).bind fun p => (ukey y).bind fun q => if ((fzFind p.1 p.2 q).getD z).flat = true then some ((fzFind p.1 p.2 q).getD z) else none
def eGetU (r : Nat) (ge gf : List D → ER D) : List D → ER D := fun σ => if (asFz (σ.getD r .non)).isSome = true then (ge σ).bind fun y σ1 => (gf σ1).bind fun z σ2 => ofO (fGetU (σ2.getD r .non) y z) σ2 else .stuck
def dIxF (d y : D) : Option D := (asFz d).bind fun p => (ukey y).bind fun q => (fzFind p.1 p.2 q).bind fun v => if v.flat = true then some v else none
def dEmp (d : D) : Option D := (asFz d).map fun p => .bl p.1.isEmpty
def gKeysU (r : Nat) : List D → ER (List D) := fun σ => match σ.getD r .non with
 | .dK kds => if D.flats (kds.map (·.2)) = true then .ok (kds.map fun kv => keyD kv.1) (σ.set r (.fzd (kds.map fun kv => (.inl kv.1 : KeyU)) (kds.map (·.2)))) else .stuck
 | .fzd ks _ => if ks.all isInl = true then .ok (ks.map uD) σ else .stuck
 | _ => .stuck
def gKeysF (r : Nat) : List D → ER (List D) := fun σ => match σ.getD r .non with
 | .fzd ks _ => if ks.all isInl = true then .ok (ks.map uD) σ else .stuck
 | _ => .stuck
end
end Ow
namespace Ow
open PySem PySem.Spec PyProof.Rows L2
section
variable {X : Cx} {W : WX} {Z : SC} {Γx Γ Γ' : Ctx} {n r : Nat} {m : List Nat} {pos p apos mpos : Pos} {k : Kd} {o : Expr} {x : Str} {g : List D → ER D} {td : TE}
def intsU : List KeyU → Option (List Int)
 | [] => some []
 | .inl (.inl i) :: r => (intsU r).map fun l => i :: l
 | _ => none
def minI : List Int → Int
 | [] => 0
 | [a] => a
 | a :: b :: l => min a (minI (b :: l))
theorem minI_spec : ∀ {is : List Int}, is ≠ [] → minI is ∈ is ∧ ∀ j ∈ is, minI is ≤ j
 | [], h => absurd rfl h
 | [a], _ => ⟨List.mem_cons_self, fun j hj => by rw [List.mem_singleton.mp hj]; exact Int.le_refl _⟩
 | a :: b :: l, _ => by
  obtain ⟨h1, h2⟩ := minI_spec (is := b :: l) (by simp)
  have e : minI (a :: b :: l) = min a (minI (b :: l)) := rfl
  rw [e]
  refine ⟨?_, fun j hj => ?_⟩
  · by_cases q : a ≤ minI (b :: l)
    · rw [Int.min_eq_left q]; exact List.mem_cons_self
    · rw [Int.min_eq_right (by omega)]; exact List.mem_cons_of_mem _ h1
  · rcases List.mem_cons.mp hj with rfl | hj
    · omega
    · have := h2 j hj; omega
def fMinK (d : D) : Option D := (asFz d).bind fun q => (intsU q.1).bind fun is => if is.isEmpty = true then none else some (.int (minI is))
end
end Ow
namespace Ow
open PySem PySem.Spec PyProof.Rows L2
section
variable {X : Cx} {W : WX} {Γx Γ : Ctx} {n n1 : Nat} {m m1 m2 : List Nat} {pos : Pos} {k : Kd} {ke e : Expr} {gk g : List D → ER D} {α β : Type} {H H1 : Hp} {lab lab1 : Labs} {σ : St}
def dEmpE (x y : D) : Option D := match y with
 | .dK [] => dEmp x
 | _ => none
end
end Ow
namespace Ow
open PySem PySem.Spec PySem.SeqAt PyProof.Rows L2 PySem.W
section
variable {prog : Program} {w : World} {A : Around} {s : Shared}
end
section
variable {X : Cx} {W : WX} {Γx Γ Γ' : Ctx} {n i : Nat} {pos p px : Pos} {x : Str}
end
end Ow
namespace Ow
open PySem PySem.Spec PyProof.Rows L2
section
variable {X : Cx} {W : WX} {Γx Γ : Ctx} {n : Nat} {m : List Nat} {e : Expr} {g : List D → ER D}
def giveC (i : Nat) (Γ : Ctx) : Ctx := Γ.set i (match Γ[i]? with
 | some (some .own) => some (.bor [])
 | some (some (.spn R)) => some (.bor R)
 | _ => none)
def labV (i : Nat) (lab : Labs) : Labs := fun a => if lab a = .slt i then .fro else lab a
theorem labV_bw {i : Nat} {lab : Labs} {R : List Lab} {a : Addr} (h : bw R (lab a)) : bw R (labV i lab a) := by
 unfold labV
 split
 · exact .inl rfl
 · exact h
theorem Pres.give {i n : Nat} {H : Hp} {lab : Labs} : Pres [i] n H lab H (labV i lab) := .relab (fun a hk => by
 unfold labV
 rw [if_neg (fun e => by rw [e] at hk; simp [keepL] at hk)]) fun a ho => by
 unfold labV at ho ⊢
 split
 · rename_i e
   rw [if_pos e] at ho
   cases ho
 · rfl
theorem SR.give {X : Cx} {Γ : Ctx} {σ : St} {H : Hp} {lab : Labs} {σD : List D} {i : Nat} (s : SR X Γ σ H lab σD) (hx : noX Γ = true) : SR X (giveC i Γ) σ H (labV i lab) σD := ⟨s.l1, s.l2, (fun j k e => by
 unfold giveC at e
 by_cases ij : j = i
 · subst ij
   by_cases hl : j < Γ.length
   · rw [List.getElem?_set_self hl] at e
     have e := Option.some.inj e
     cases ek : Γ[j]? with
     | none => rw [ek] at e; cases e
     | some o =>
      cases o with
      | none => rw [ek] at e; cases e
      | some k0 =>
       rw [ek] at e
       obtain ⟨v, d, h1, h2, r⟩ := s.at_ j k0 ek
       refine ⟨v, d, h1, h2, ?_⟩
       cases k0 with
       | own =>
        cases e
        obtain ⟨fp, rp, nd, lf⟩ := r
        refine ⟨fp, rp, fun a ha => .inl ?_⟩
        unfold labV
        rw [if_pos (lf a ha)]
       | spn R =>
        cases e
        obtain ⟨a, vs, ds, fp, rfl, rfl, hH, rl, la, lb⟩ := r
        refine ⟨a :: fp, .lst hH rl, fun b hb => ?_⟩
        rcases List.mem_cons.mp hb with rfl | hb
        · left
          unfold labV
          rw [if_pos la]
        · exact labV_bw (lb b hb).2
       | bor R => cases e
       | exc R => cases e
   · rw [List.set_eq_of_length_le (by omega)] at e
     rw [List.getElem?_eq_none (by omega)] at e
     cases e
 · rw [List.getElem?_set_ne (Ne.symm ij)] at e
   obtain ⟨v, d, h1, h2, r⟩ := s.at_ j k e
   have st : ∀ a, lab a = .slt j → labV i lab a = .slt j := fun a ha => by
    unfold labV
    rw [ha, if_neg (fun q => ij (by injection q))]
   refine ⟨v, d, h1, h2, ?_⟩
   cases k with
   | own =>
    obtain ⟨fp, rp, nd, lf⟩ := r
    exact ⟨fp, rp, nd, fun a ha => st a (lf a ha)⟩
   | bor R =>
    obtain ⟨fp, rp, lf⟩ := r
    exact ⟨fp, rp, fun a ha => labV_bw (lf a ha)⟩
   | spn R =>
    obtain ⟨a, vs, ds, fp, e1, e2, hH, rl, la, lb⟩ := r
    exact ⟨a, vs, ds, fp, e1, e2, hH, rl, st a la, fun b hb => ⟨(lb b hb).1, labV_bw (lb b hb).2⟩⟩
   | exc R =>
    have := List.all_eq_true.mp hx _ (List.mem_of_getElem? e)
    cases this), s.tb.pres (Pres.give (n := 0))⟩
end
end Ow
namespace Ow
open PySem PySem.Spec PySem.SeqAt PyProof.Rows L2
section
variable {X : Cx} {W : WX} {Γx Γ : Ctx} {n : Nat} {m1 m2 : List Nat} {pos : Pos} {k : Kd} {ks : List AK} {o e : Expr} {g : List D → ER D} {gs : List D → ER (List D)}
end
end Ow
namespace Ow
open PySem PySem.Spec PySem.SeqAt PyProof.Rows L2
section
variable {X : Cx} {pins : List (Addr × Obj)} {σ : St} {H : Hp} {s : Shared} {a : Addr} {o : Obj} {us : List (List Int × Addr × Value)} {pos apos cpos : Pos}
end
end Ow
namespace Ow
open PySem PySem.Spec PySem.SeqAt PyProof.Rows L2
def hashT (k : List Int) : Int := reduceHash (Builtin.Tuple.tupleHashOf (k.map hashInt))
section
variable {prog : Program} {w : World} {A : Around} {E : Value → Shared → Prop} {s : Shared}
end
section
variable {X : Cx}
end
def minT : List (List Int) → List Int
 | [] => []
 | a :: l => l.foldl (fun m x => if HT.lexLt x m = true then x else m) a
section
variable {X : Cx} {pos p apos mpos : Pos} {o : Expr} {td : TE}
end
end Ow
namespace Ow
open PySem PySem.Spec PySem.SeqAt PyProof.Rows L2
theorem hu2 {k : Nat} {A : Around} (h : Room k A) : A.units + 2 < cLine := by have := hu64 h; omega
section
variable {X : Cx} {W : WX} {Z : SC} {Γx Γ Γ' : Ctx} {n : Nat} {m : List Nat} {k : Kd} {e tg : Expr} {st : Stmt} {R : List Lab}
end
def tupsU : List KeyU → Option (List (List Int))
 | [] => some []
 | .inr l :: r => (tupsU r).map fun q => l :: q
 | .inl _ :: _ => none
theorem tupsU_map : ∀ q : List (List Int), tupsU (q.map Sum.inr) = some q
 | [] => rfl
 | l :: q => by show (tupsU (q.map Sum.inr)).map _ = _; rw [tupsU_map q]; rfl
def asFt : D → Option (List (List Int × D))
 | .dT kds => some kds
 | .fzd ks ds => (tupsU ks).map fun q => q.zip ds
 | .dK [] => some []
 | _ => none
def isTpR : ER D → Bool
 | .ok (.tup _) _ => true
 | _ => false
def getTY (d y z : D) : Option D := (asFt d).bind fun kds => match y with
 | .tup ds => (intsOf ds).bind fun ks => if ((dFind kds ks).getD z).flat = true then some ((dFind kds ks).getD z) else none
 | _ => none
section
variable {X : Cx} {W : WX} {Z : SC} {Γx Γ Γ' : Ctx} {n r : Nat} {m m1 m2 m3 : List Nat} {pos p px apos cpos mpos ipos tpos : Pos} {k k1 k2 : Kd} {tg a b e f ie o : Expr} {x : Str} {g gi ge gf gv ga gb : List D → ER D} {gs : List D → ER (List D)}
def eGetY (r : Nat) (ge gf : List D → ER D) : List D → ER D := fun σ => if (asFt (σ.getD r .non)).isSome = true then (ge σ).bind fun y σ1 => (gf σ1).bind fun z σ2 => ofO (getTY (σ2.getD r .non) y z) σ2 else .stuck
def eGet2 (r : Nat) (ge gf : List D → ER D) : List D → ER D := fun σ => if isTpR (ge σ) = true then eGetY r ge gf σ else eGetU r ge gf σ
def dIxY (d y : D) : Option D := (asFt d).bind fun kds => match y with
 | .tup ds => (intsOf ds).bind fun ks => (dFind kds ks).bind fun v => if v.flat = true then some v else none
 | _ => none
def dIx2 (d y : D) : Option D := match y with
 | .tup _ => dIxY d y
 | _ => dIxF d y
def fMinY (d : D) : Option D := (asFt d).bind fun kds => if kds.isEmpty = true then none else some (.tup ((minT (kds.map (·.1))).map D.int))
def ftOne (d : D) : Bool := match asFt d with
 | some (_ :: _) => true
 | _ => false
def fMinU2 (d : D) : Option D := if ftOne d = true then fMinY d else fMinK d
def dEmpY (d : D) : Option D := (asFt d).map fun p => .bl p.isEmpty
def dEmp2 (x y : D) : Option D := match y with
 | .dK [] => (dEmp x).or (dEmpY x)
 | _ => none
def pairT : D → Option (List Int × D)
 | .tup [.tup ks, v] => if v.flat = true then (intsOf ks).map fun q => (q, v) else none
 | _ => none
def pairsT : List D → Option (List (List Int × D))
 | [] => some []
 | d :: ds => (pairT d).bind fun p => (pairsT ds).map fun ps => p :: ps
def fDictPT : List D → Option D
 | [.lst ds] => (pairsT ds).bind fun ps => if (ps.map (·.1)).Nodup ∧ ps ≠ [] then some (.fzd (ps.map fun kv => (.inr kv.1 : KeyU)) (ps.map (·.2))) else none
 | _ => none
def isPL : List D → Bool
 | [.lst (.tup [.tup _, _] :: _)] => true
 | _ => false
def fDictP2 (ds : List D) : Option D := if isPL ds = true then fDictPT ds else fDictP ds
def fDictCT : List D → Option D
 | [d] => (asFt d).bind fun kds => if D.flats (kds.map (·.2)) = true ∧ (kds.map fun kv => hashT kv.1).Nodup then some (.dT kds) else none
 | _ => none
def isCL : List D → Bool
 | [d] => ftOne d
 | _ => false
def fDictC2 (ds : List D) : Option D := if isCL ds = true then fDictCT ds else fDictC ds
def isK0 : D → Bool
 | .dK [] => true
 | _ => false
def toX (r : Nat) (σ : List D) : List D := if isK0 (σ.getD r .non) = true then σ.set r (.dT []) else σ
def sSet2 (r : Nat) (gv gi : List D → ER D) : List D → SO := fun σ => if isTpR (gi σ) = true then sSetT r gv gi (toX r σ) else sSetD r gv gi σ
def gKeysY (r : Nat) : List D → ER (List D) := fun σ => match σ.getD r .non with
 | .dT kds => if D.flats (kds.map (·.2)) = true ∧ kds ≠ [] then .ok (kds.map fun kv => .tup (kv.1.map D.int)) (σ.set r (.fzd (kds.map fun kv => (.inr kv.1 : KeyU)) (kds.map (·.2)))) else .stuck
 | .fzd ks _ => (match tupsU ks with
  | some (l :: q) => .ok ((l :: q).map fun k => .tup (k.map D.int)) σ
  | _ => .stuck)
 | _ => .stuck
def isYD : D → Bool
 | .dT _ => true
 | .fzd (.inr _ :: _) _ => true
 | _ => false
def gKeys2 (r : Nat) : List D → ER (List D) := fun σ => if isYD (σ.getD r .non) = true then gKeysY r σ else gKeysU r σ
def gKeysYF (r : Nat) : List D → ER (List D) := fun σ => match σ.getD r .non with
 | .fzd ks _ => (match tupsU ks with
  | some (l :: q) => .ok ((l :: q).map fun k => .tup (k.map D.int)) σ
  | _ => .stuck)
 | _ => .stuck
def gKeys2F (r : Nat) : List D → ER (List D) := fun σ => if isYD (σ.getD r .non) = true then gKeysYF r σ else gKeysF r σ
end
end Ow
namespace Ow
open PySem PySem.Spec PyProof.Rows L2
section
variable {X : Cx} {W : WX} {Γx Γ : Ctx} {n : Nat} {m1 m2 : List Nat} {a b : Expr} {ga gb : List D → ER D} {k k1 : Kd} {pos : Pos}
end
end Ow
namespace Ow
open PySem PySem.Spec PyProof.Rows L2
section
variable {X : Cx} {W : WX} {Z : SC} {Γx Γ Γ1 : Ctx} {n lv np r i : Nat} {m : List Nat} {ks : List AK} {rs io : List Nat} {own : Ret} {Fd : List D → FR} {x nx ny : Str} {p pos px py apos : Pos} {e : Expr} {es : List Expr} {gs : List D → ER (List D)}
end
end Ow
namespace Ow
open PySem PySem.Spec PyProof.Rows L2
def mkD (j : Nat) : D := .tup [.str "mark", .int (j : Int)]
def mkF : Nat → List (List D) → List D
 | _, [] => []
 | j, x :: xs => .lst (x ++ [mkD j]) :: mkF (j + 1) xs
def mkR : Nat → Nat → List (List (List D)) → List D
 | _, _, [] => []
 | i, c, r :: rs => .lst (mkF c r ++ [mkD i]) :: mkR (i + 1) (c + r.length) rs
section
variable (K : PySem.W.Frag) (cl : CE) (H : Hp)
inductive FmA : List Addr → List (List D) → Prop
 | nil : FmA [] []
 | cons {a : Addr} {ws : List V} {x : List D} {as : List Addr} {xs : List (List D)} (h : H a = some (.lst ws)) (r : RpL K cl H ws x []) (l : ws.length < 1000) (t : FmA as xs) : FmA (a :: as) (x :: xs)
end
section
variable (K : PySem.W.Frag) (cl : CE) (H : Hp)
inductive RwA : List Addr → List (List Addr) → List (List (List D)) → Prop
 | nil : RwA [] [] []
 | cons {a : Addr} {cs : List Addr} {row : List (List D)} {as : List Addr} {cas : List (List Addr)} {rs : List (List (List D))} (h : H a = some (.lst (cs.map V.ref))) (f : FmA K cl H cs row) (t : RwA as cas rs) : RwA (a :: as) (cs :: cas) (row :: rs)
end
section
variable {K : PySem.W.Frag} {cl : CE} {H H' : Hp}
theorem FmA.len : ∀ {as : List Addr} {xs : List (List D)}, FmA K cl H as xs → as.length = xs.length
 | _, _, .nil => rfl
 | _, _, .cons h r l t => by simp [t.len]
theorem FmA.app : ∀ {as bs : List Addr} {xs ys : List (List D)}, FmA K cl H as xs → FmA K cl H bs ys → FmA K cl H (as ++ bs) (xs ++ ys)
 | _, _, _, _, .nil, b => b
 | _, _, _, _, .cons h r l t, b => .cons h r l (t.app b)
theorem RwA.len : ∀ {as : List Addr} {cas : List (List Addr)} {rs : List (List (List D))}, RwA K cl H as cas rs → as.length = rs.length ∧ cas.length = rs.length
 | _, _, _, .nil => ⟨rfl, rfl⟩
 | _, _, _, .cons h f t => by simp [t.len.1, t.len.2]
theorem FmA.at_ : ∀ {as : List Addr} {xs : List (List D)} {a : Addr}, FmA K cl H as xs → a ∈ as → ∃ ws, H a = some (.lst ws) ∧ ws.length < 1000
 | _, _, _, .nil, h => by simp at h
 | _, _, a, .cons (a := b) h r l t, m => (List.mem_cons.mp m).elim (fun e => ⟨_, by rw [e]; exact h, l⟩) fun e => t.at_ e
theorem RwA.at_ : ∀ {as : List Addr} {cas : List (List Addr)} {rs : List (List (List D))} {i : Nat} {a : Addr}, RwA K cl H as cas rs → as[i]? = some a → ∃ cs, cas[i]? = some cs ∧ H a = some (.lst (cs.map V.ref))
 | _, _, _, _, _, .nil, h => by simp at h
 | _, _, _, 0, _, .cons h f t, m => by
  simp at m
  subst m
  exact ⟨_, rfl, h⟩
 | _, _, _, i + 1, _, .cons h f t, m => by
  obtain ⟨cs, e1, e2⟩ := t.at_ (i := i) (by simpa using m)
  exact ⟨cs, by simpa using e1, e2⟩
def Mk (H H' : Hp) (j : Nat) (a : Addr) : Prop := ∀ ws, H a = some (.lst ws) → ∃ T, H' a = some (.lst (ws ++ [.ref T])) ∧ H' T = some (.tup [.str "mark", .int (j : Int)])
theorem mark_rp {T : Addr} {j : Nat} (h : H T = some (.tup [.str "mark", .int (j : Int)])) : RpL K cl H [.ref T] [mkD j] [] := RpL.one (.tup (.of h) (.cons (.str _) (.cons (.int _) .nil)))
theorem FmA.mk (tk : TK H H') : ∀ {as : List Addr} {xs : List (List D)} {j : Nat}, FmA K cl H as xs → (∀ (i : Nat) (a : Addr), as[i]? = some a → Mk H H' (j + i) a) → RpL K cl H' (as.map V.ref) (mkF j xs) as
 | _, _, _, .nil, _ => .nil
 | _, _, j, .cons (a := a) h r l t, m => by
  obtain ⟨T, e1, e2⟩ := m 0 a rfl _ h
  have hr : RpL K cl H' _ _ [] := (r.ext tk (fun b hb => by cases hb)).append (mark_rp e2)
  exact .cons (.lst e1 hr) (t.mk tk (j := j + 1) fun i b hb => by
   have := m (i + 1) b (by simpa using hb)
   rwa [show j + (i + 1) = j + 1 + i by omega] at this)
theorem RwA.mk (tk : TK H H') : ∀ {as : List Addr} {cas : List (List Addr)} {rs : List (List (List D))} {i0 c0 : Nat}, RwA K cl H as cas rs → (∀ (i : Nat) (a : Addr), as[i]? = some a → Mk H H' (i0 + i) a) → (∀ (i : Nat) (a : Addr), cas.flatten[i]? = some a → Mk H H' (c0 + i) a) →
 ∃ fp, RpL K cl H' (as.map V.ref) (mkR i0 c0 rs) fp ∧ fp.Perm (as ++ cas.flatten)
 | _, _, _, _, _, .nil, _, _ => ⟨[], .nil, .refl _⟩
 | _, _, _, i0, c0, .cons (a := a) (cs := cs) (row := row) (cas := cas) h f t, m1, m2 => by
  obtain ⟨T, e1, e2⟩ := m1 0 a rfl _ h
  have hf := f.mk tk (j := c0) fun i b hb => m2 i b (by rw [List.flatten_cons, List.getElem?_append_left (List.getElem?_eq_some_iff.mp hb).1]; exact hb)
  have hr := hf.append (mark_rp e2)
  obtain ⟨fp, r2, s2⟩ := t.mk tk (i0 := i0 + 1) (c0 := c0 + row.length) (fun i b hb => by
   have := m1 (i + 1) b (by simpa using hb)
   rwa [show i0 + (i + 1) = i0 + 1 + i by omega] at this) fun i b hb => by
   have := m2 (cs.length + i) b (by rw [List.flatten_cons, List.getElem?_append_right (Nat.le_add_right _ _), Nat.add_sub_cancel_left]; exact hb)
   rwa [show c0 + (cs.length + i) = c0 + row.length + i by rw [f.len]; omega] at this
  refine ⟨_, .cons (.lst e1 hr) r2, ?_⟩
  simp only [List.append_nil, List.cons_append, List.flatten_cons]
  refine List.Perm.cons _ ?_
  refine (List.Perm.append_left cs s2).trans ?_
  rw [← List.append_assoc, ← List.append_assoc]
  exact List.Perm.append_right _ List.perm_append_comm
end
def ExtH (H H' : Hp) : Prop := ∀ b o, H b = some o → H' b = some o
theorem ExtH.refl (H : Hp) : ExtH H H := fun _ _ h => h
theorem ExtH.new {H H' : Hp} {p : Addr} {o : HO} (e : ExtH H H') (h : H' p = none) : ExtH H (upd H' p o) := fun b u hb => by
 rw [upd_ne (ne_of_none (e b u hb) h)]
 exact e b u hb
theorem ExtH.tk {H H' : Hp} (e : ExtH H H') : TK H H' := ⟨fun b xs h => e b _ h, fun b o u h => e b _ h⟩
def Agr (l : List Nat) (σ σ' : St) : Prop := σ'.length = σ.length ∧ ∀ i, i ∉ l → σ'[i]? = σ[i]?
theorem Agr.refl (l : List Nat) (σ : St) : Agr l σ σ := ⟨rfl, fun _ _ => rfl⟩
theorem Agr.set {l : List Nat} {σ σ' : St} {i : Nat} {v : Option V} (a : Agr l σ σ') (h : i ∈ l) : Agr l σ (σ'.set i v) := ⟨by rw [List.length_set]; exact a.1, fun j hj => by
 rw [List.getElem?_set_ne (by rintro rfl; exact hj h)]
 exact a.2 j hj⟩
section
variable {X : Cx} {W : WX} {Z : SC} {Γ Γ1 Γ2 : Ctx} {n t s rw_ k o : Nat} {m2 : List Nat} {G2 : List D → SO}
end
section
variable {X : Cx} {W : WX} {Z : SC} {Γ Γ1 Γ2 : Ctx} {n t s rw_ k o : Nat} {m2 : List Nat} {G2 : List D → SO}
end
end Ow
namespace Ow
open PySem PySem.Spec PyProof.Rows L2
section
variable {X : Cx}
end
end Ow
namespace Ow
open PySem PySem.Spec PySem.SeqAt PyProof.Rows L2
section
variable {X : Cx} {W : WX} {Γx Γ : Ctx} {n : Nat} {m : List Nat} {pos p : Pos} {a : Expr} {ga : List D → ER D} {k : Kd}
end
end Ow
namespace Ow
open PySem PySem.Spec PySem.SeqAt PyProof.Rows L2 PySem.W
section
variable {X : Cx} {W : WX} {Z : SC} {Γx Γ Γ' : Ctx} {n : Nat} {m : List Nat} {pos p : Pos} {x : Str} {e : Expr} {gs : List D → ER (List D)} {k : Kd} {ks : List AK}
end
end Ow
namespace Ow
open PySem PySem.Spec PySem.SeqAt PyProof.Rows L2
inductive LamStep (H : Hp) (P : Addr) (ps : Array Value) : Hp → Prop
 | old : LamStep H P ps H
 | new {c : Addr} {more : Array Value} (hc : H c = none) (ok : TriplesOk (ps ++ more).toList) (am : ∀ (pos : Pos) (cv : Value), codeAmong pos (ps ++ more).toList = some cv → codeAmong pos ps.toList = some cv ∨ cv = .ref c) :
  LamStep H P ps (upd (upd H P (.tbl (ps ++ more))) c (LamX.CodeO c lamQ))
def labLam (H : Hp) (lab : Labs) : Labs := fun a => if H a = none then .fro else lab a
theorem labLam_old {H : Hp} {lab : Labs} {a : Addr} (h : H a ≠ none) : labLam H lab a = lab a := if_neg h
theorem LamStep.pres {H H1 : Hp} {P : Addr} {ps : Array Value} (st : LamStep H P ps H1) {lab : Labs} {n : Nat} (t : TabP H lab P lamQ ps) : Pres [] n H lab H1 (labLam H lab) := by
 have oldI : ∀ a, oldL (labLam H lab a) = true → H a ≠ none ∧ lab a = labLam H lab a := fun a o => by
  by_cases e : H a = none
  · unfold labLam at o
    rw [if_pos e] at o
    cases o
  · exact ⟨e, (labLam_old e).symm⟩
 cases st with
 | old =>
  refine ⟨fun a ha _ => ⟨fun _ => rfl, labLam_old ha⟩, TK.refl H, fun _ h => h, fun a _ o => oldI a o, TabP.relab fun c l => ?_⟩
  unfold labLam
  split
  · rfl
  · exact l
 | @new c more hc ok am =>
  have nP : P ≠ c := fun e => by rw [← e, t.1] at hc; cases hc
  have atP : upd (upd H P (.tbl (ps ++ more))) c (LamX.CodeO c lamQ) P = some (.tbl (ps ++ more)) := by rw [upd_ne nP, upd_same]
  have same : ∀ a, H a ≠ none → a ≠ P → upd (upd H P (.tbl (ps ++ more))) c (LamX.CodeO c lamQ) a = H a := fun a ha h => by
   rw [upd_ne (fun e => ha (by rw [e]; exact hc)), upd_ne h]
  have ntP : ∀ {a : Addr}, nTb (H a) → a ≠ P := fun {a} h e => h ps (by rw [e]; exact t.1)
  refine ⟨fun a ha _ => ⟨fun z => same a ha (ntP z), labLam_old ha⟩, ⟨fun b xs e => ?_, fun b o u e => ?_⟩, fun a ha => ?_, fun a _ o => oldI a o, fun P' q ps' t' => ?_⟩
  · rw [same b (by rw [e]; simp) fun z => by rw [z, t.1] at e; cases e]
    exact e
  · rw [same b (by rw [e]; simp) fun z => by rw [z, t.1] at e; cases e]
    exact e
  · by_cases e : a = P
    · rw [e, atP]
      simp
    · rw [same a ha e]
      exact ha
  · have codeS : ∀ {c0 : Addr}, H c0 = some (LamX.CodeO c0 lamQ) → staysL (lab c0) = true → upd (upd H P (.tbl (ps ++ more))) c (LamX.CodeO c lamQ) c0 = some (LamX.CodeO c0 lamQ) ∧ staysL (labLam H lab c0) = true := fun {c0} e l => by
     have ha : H c0 ≠ none := by rw [e]; simp
     exact ⟨(same c0 ha (ntP (nTb.code e))).trans e, by rw [labLam_old ha]; exact l⟩
    by_cases e : P' = P
    · subst e
      obtain rfl : ps' = ps := by
       have a := t.1
       rw [t'.1] at a
       cases a
       rfl
      refine ⟨ps' ++ more, ⟨atP, ok, fun pos cv h => ?_⟩, fun pos c0 h => ?_⟩
      · rcases am pos cv h with z | z
        · obtain ⟨c0, e1, e2, e3⟩ := t.2.2 pos cv z
          exact ⟨c0, e1, codeS e2 e3⟩
        · refine ⟨c, z, upd_same, ?_⟩
          unfold labLam
          rw [if_pos hc]
          rfl
      · rcases am pos _ h with z | z
        · exact .inl z
        · cases z
          exact .inr hc
    · refine ⟨ps', ⟨(same P' (by rw [t'.1]; simp) e).trans t'.1, t'.2.1, fun pos cv h => ?_⟩, fun _ _ h => .inl h⟩
      obtain ⟨c0, e1, e2, e3⟩ := t'.2.2 pos cv h
      exact ⟨c0, e1, codeS e2 e3⟩
section
variable {X : Cx} {pins : List (Addr × Obj)} {σ : L2.St} {H : Hp} {s : Shared}
structure LamAt (X : Cx) (c P : Addr) : Prop where
 tb : LamX.TabB X.base X.mg c P
 code : X.env.code = .ref c
 name : X.env.qual ++ "<lambda>" = lamQ
theorem lam_make {c P : Addr} {ps : Array Value} {params : Arguments} {body : Expr} {scope : Scope} {pos : Pos} {E : Value → Shared → Prop} {Q : Value → Shared → Prop} (I : L2.Inv X pins σ H s) (L : LamAt X c P) (hP : H P = some (.tbl ps)) (ok : TriplesOk ps.toList)
 (codes : ∀ (pos : Pos) (cv : Value), codeAmong pos ps.toList = some cv → ∃ c, cv = .ref c ∧ H c = some (LamX.CodeO c lamQ)) (plain : defaultsOf params X.env = ([], [])) (closed : ∀ y ∈ scope.names, y.2 ≠ .free)
 (go : ∀ (f c' : Addr) (pm ctv : Value) (H1 : Hp) (s' : Shared), L2.Inv X pins σ H1 s' → LamStep H P ps H1 → s'.heap.get? f = some (PySem.W.kla_obj "<lambda>" lamQ params body scope (cloFrom X.env.cells scope.names []) pm c' ctv) → s'.heap.CodeRec (.ref c') lamQ → Q (.ref f) s') :
 wpAny (model X.prog X.w) X.A (eval (.Lambda params body scope pos) X.env) Q E s := by
 have bl : s.heap.BuiltinsAt X.mg P := L.tb.bm.keeps I.bk
 have obj : s.heap.get? P = some (PySem.W.tabObj ps) := I.hok P _ hP
 have cl : closureFor scope X.env = pure (cloFrom X.env.cells scope.names []) := closure_ok fun y hy e => absurd e (closed y hy)
 refine PySem.W.kla_eval plain ?_
 rw [L.name]
 cases hit : codeAmong pos ps.toList with
 | some cv =>
  obtain ⟨c', rfl, known⟩ := codes pos cv hit
  refine PySem.W.kla_makeFunctionHit (mg := X.mg) (c := c) (P := P) (ps := ps) cl I.ok.glob (I.mod.glob.keeps I.bk) L.code (L.tb.code.keeps I.bk) obj ok hit bl fun ctv h' tk kp grown => ?_
  have I2 : L2.Inv X pins σ H { s with heap := h'.push { cls := .type "function", data := .func (PySem.W.kla_fn "<lambda>" lamQ params body scope (cloFrom X.env.cells scope.names []) ((X.mg "__name__").getD .none) (.ref c') ctv) }, toks := tk } := I.kept fun b o e => Heap.get?_push_of_some _ (kp b o e)
  obtain ⟨oc, vs, t, e1, e2, e3⟩ := (I2.hok c' _ known).1
  exact go h'.objs.size c' ((X.mg "__name__").getD .none) ctv H _ I2 .old (Heap.get?_push_size _ rfl) ⟨c', oc, vs, t, rfl, e1, e2, e3⟩
 | none =>
  refine PySem.W.kla_makeFunction (mg := X.mg) (c := c) (P := P) (ps := ps) cl I.ok.glob (I.mod.glob.keeps I.bk) L.code (L.tb.code.keeps I.bk) obj ok hit L.tb.gP bl fun c' ctv h' tk ext ge lt rec_ tab_ => ?_
  obtain ⟨c2, oc, vs, t, ec, hoc, hd, hv⟩ := rec_
  cases ec
  have fresh : H c' = none := I.hok.fresh ge
  have I2 := LamX.inv_table (t' := tk) (q := lamQ) (more := #[rawInt pos.line, rawInt pos.col, .ref c']) (h' := h'.push (PySem.W.kla_obj "<lambda>" lamQ params body scope (cloFrom X.env.cells scope.names []) ((X.mg "__name__").getD .none) c' ctv)) I hP
   (fun b o hb e => Heap.get?_push_of_some _ (ext b o hb e)) (Heap.get?_push_of_some _ tab_) ge ⟨oc, vs, t, Heap.get?_push_of_some _ hoc, hd, hv⟩
  have eL : (ps ++ #[rawInt pos.line, rawInt pos.col, .ref c']).toList = ps.toList ++ [rawInt pos.line, rawInt pos.col, .ref c'] := by simp
  refine go h'.objs.size c' ((X.mg "__name__").getD .none) ctv _ _ I2 (.new fresh (by rw [eL]; exact PySem.TriplesOk_snoc _ _ _ _ ok) fun p' cv h => ?_) (Heap.get?_push_size _ rfl) ⟨c', oc, vs, t, rfl, Heap.get?_push_of_some _ hoc, hd, hv⟩
  rw [eL] at h
  exact LamX.among_app _ ok h
end
def sumBody (a : Str) (p1 p2 p3 p4 p5 : Pos) (j : Nat) : Expr := .Tuple [.Call (.Name "sum" p1) [.Name a p2] [] p3, .Name a p4] j p5
def keySum (ns : List Int) : PyData := .tuple [.int ns.sum, .tuple (ns.map .int)]
theorem readsAll_ints {h : Heap} : ∀ {vs : List Value} {ns : List Int}, IntsAre vs ns → ReadsAll h vs (ns.map PyData.int) []
 | _, _, .nil => .nil
 | _, _, .cons n t r => ReadsAll.cons (as := []) (bs := []) (.int n t) (readsAll_ints r)
section
variable {prog : Program} {w : World} {A : Around} {s : Shared}
theorem key_call {f t c' : Addr} {a : Str} {p1 p2 p3 p4 p5 : Pos} {j : Nat} {params : Arguments} {scope : Scope} {pm ctv : Value} {q : Str} {its : List Value} {ns : List Int} {mg mb : Str → Option Value} (room : A.depth < recursionLimit) (calm : A.handled = none)
 (hf : s.heap.get? f = some (PySem.W.kla_obj "<lambda>" q params (sumBody a p1 p2 p3 p4 p5 j) scope [] pm c' ctv)) (rec_ : s.heap.CodeRec (.ref c') q) (lim : s.heap.NoLimit) (glob : s.heap.Ns mainGlobals mg) (blt : s.heap.Ns builtinsNs mb)
 (m1 : mg "sum" = none) (m2 : mb "sum" = some (.builtin "sum")) (kind : scope.kind = .function) (co : scope.isCoroutine = false) (gen : scope.isGenerator = false) (noCell : ∀ y ∈ scope.names, y.2 ≠ .cell) (here : scope.names.lookup a = some .local) (glo : scope.names.lookup ("sum" : Str) = some .globalImplicit)
 (bind : bindArgs (PySem.W.kla_fn "<lambda>" q params (sumBody a p1 p2 p3 p4 p5 j) scope [] pm (.ref c') ctv) ⟨[.ref t], []⟩ = pure [(a, .ref t)]) (ht : s.heap.IsTuple t its.toArray) (hi : IntsAre its ns)
 (da : (a == ("__debug__" : Str)) = false) :
 wpAny (model prog w) A (call (.ref f) [.ref t]) (PySem.W.KeyPure (keySum ns) s) (fun _ _ => False) s := by
 have run : codeAny (model prog w) A (.call (.ref f) ⟨[.ref t], []⟩) (fun r s' => ∃ u, r = .ok (.ret u) ∧ PySem.W.KeyPure (keySum ns) s u s') s := by
  refine PySem.W.kla_callFunE room hf rfl co gen rfl rec_ ?_
  rw [bind]
  refine wpAny_pure (wpAny_newFunctionEnv noCell (fun y hy => by rw [List.mem_singleton.mp hy]; exact here) (fun h₁ ns₁ sb => ⟨lim.fresh _ sb, ?_⟩) kind)
  show codeAny _ _ (.expr _ (PySem.W.envX q scope s.heap.objs.size f (.ref c') [])) _ _
  have kp : ∀ b o, s.heap.get? b = some o → h₁.get? b = some o := fun b o e => sb.extBut b o (Nat.ne_of_lt (Heap.lt_size e)) (Heap.get?_push_of_some _ e)
  have nsA : (fun x => ([(a, Value.ref t)] : List (Str × Value)).reverse.lookup x) a = some (.ref t) := by
   show ([(a, Value.ref t)] : List (Str × Value)).lookup a = _
   rw [List.lookup_cons, beq_self_eq_true]
  refine PySem.W.kla_codeExpr ?_
  refine wpAny_Tuple_spliced ?_
  show wpAny _ _ (spliced ((false, eval (.Call (.Name "sum" p1) [.Name a p2] [] p3) _) :: (false, eval (.Name a p4) _) :: [])) _ _ _
  refine Calls.spliced_cons ?_
  refine wpAny_Call_Name_kw (Calls.Name_function_global kind glo (Calls.loadGlobal_builtin (glob.keeps kp) m1 (blt.keeps kp) m2 ?_) (by decide +kernel))
  refine PyProof.Rows.callWith_builtin1 ?_ rfl rfl
  show wpAny _ _ (spliced ((false, eval (.Name a p2) _) :: [])) _ _ _
  refine Calls.spliced_cons (wpAny_Name (wpAny_loadName_local kind here ns₁ nsA ?_) da)
  refine Calls.spliced_nil ?_
  have ht1 : h₁.IsTuple t its.toArray := let ⟨ot, z1, z2, n, z4⟩ := ht; ⟨ot, kp _ _ z1, z2, n, z4⟩
  refine sum_tup (by exact calm) ht1 hi fun h2 tk2 t2 kp2 => ?_
  have kp12 : ∀ b o, s.heap.get? b = some o → h2.get? b = some o := fun b o e => kp2 b o (kp b o e)
  refine Calls.spliced_cons (wpAny_Name (wpAny_loadName_local kind here (ns₁.keeps kp2) nsA ?_) da)
  refine Calls.spliced_nil ⟨by rw [sizeLine_eq]; show 2 ≤ _; omega, ?_⟩
  refine ⟨_, rfl, _, _, rfl, fun b o e => Heap.get?_push_of_some _ (kp12 b o e), ?_⟩
  obtain ⟨ot, z1, z2, z3, z4⟩ := ht
  refine Reads.tuple (as := []) (Heap.get?_push_size _ rfl) rfl rfl ?_
  refine ReadsAll.cons (as := []) (bs := []) (.int _ _) (ReadsAll.cons (as := []) (bs := []) (Reads.tuple (as := []) (Heap.get?_push_of_some _ (kp12 _ _ z1)) z2 z4 ?_) .nil)
  exact readsAll_ints hi
 refine wpAny_call (codeAny_mono run fun r s' hq => ?_)
 obtain ⟨u, rfl, q⟩ := hq
 exact q
end
theorem alike_intsT : ∀ a b : List Int, PySem.W.alikeAll (a.map PyData.int) (b.map PyData.int) = true
 | [], _ => by simp [PySem.W.alikeAll]
 | _ :: _, [] => by simp [PySem.W.alikeAll]
 | x :: a, y :: b => by simp [PySem.W.alikeAll, PySem.W.alike, alike_intsT a b]
theorem alike_key (a b : List Int) : PySem.W.alike (keySum a) (keySum b) = true := by simp [keySum, PySem.W.alike, PySem.W.alikeAll, alike_intsT]
theorem depth_intsT : ∀ a : List Int, PyData.depthAll (a.map PyData.int) = 0
 | [] => by simp [PyData.depthAll]
 | x :: a => by simp [PyData.depthAll, PyData.depth, depth_intsT a]
theorem depth_key (a : List Int) : (keySum a).depth = 2 := by simp [keySum, PyData.depth, PyData.depthAll, depth_intsT]
def sumLe (x y : List Int) : Bool := PySem.W.dataLe false keySum x y
def IsTupV (h : Heap) (v : Value) (b : V × List Int) : Prop := RelV b.1 v ∧ ∃ t its, v = .ref t ∧ h.IsTuple t its.toArray ∧ IntsAre its b.2
theorem vals_each {h : Heap} {vs : List Value} {L : List (V × List Int)} (e : PySem.W.EachIs (IsTupV h) vs L) : Vals (L.map (·.1)) vs := by
 induction e with
 | nil => exact .nil
 | cons r _ ih => exact .cons r.1 ih
theorem LamStep.sqt {K : PySem.W.Frag} {H H1 : Hp} {P t : Addr} {ps : Array Value} {xs : List V} (st : LamStep H P ps H1) (hP : H P = some (.tbl ps)) (h : SqT K H t xs) : SqT K H1 t xs := by
 cases st with
 | old => exact h
 | @new c more hc _ _ =>
  have same : ∀ a o, H a = some o → (∀ p, o ≠ .tbl p) → upd (upd H P (.tbl (ps ++ more))) c (LamX.CodeO c lamQ) a = some o := fun a o e n => by
   rw [upd_ne (ne_of_none e hc), upd_ne fun z => by rw [z, hP] at e; exact n _ (Option.some.inj e).symm]
   exact e
  rcases h with (h | ⟨o, h⟩) | h
  · exact .inl (.inl (same _ _ h fun p z => by cases z))
  · exact .inl (.inr ⟨o, same _ _ h fun p z => by cases z⟩)
  · exact .inr h
theorem LamStep.sql {K : PySem.W.Frag} {H H1 : Hp} {P t : Addr} {ps : Array Value} {xs : List V} (st : LamStep H P ps H1) (hP : H P = some (.tbl ps)) (h : SqL K H t xs) : SqL K H1 t xs := by
 cases st with
 | old => exact h
 | @new c more hc _ _ =>
  have same : ∀ a o, H a = some o → (∀ p, o ≠ .tbl p) → upd (upd H P (.tbl (ps ++ more))) c (LamX.CodeO c lamQ) a = some o := fun a o e n => by
   rw [upd_ne (ne_of_none e hc), upd_ne fun z => by rw [z, hP] at e; exact n _ (Option.some.inj e).symm]
   exact e
  rcases h with (h | ⟨o, h⟩) | h
  · exact .inl (.inl (same _ _ h fun p z => by cases z))
  · exact .inl (.inr ⟨o, same _ _ h fun p z => by cases z⟩)
  · exact .inr h
def rSortSum (X : Cx) (P : Addr) : List V → Hp → VK → Prop := fun vs H Q => ∃ (ps : Array Value) (a : Addr) (L : List (V × List Int)), vs = [.ref a] ∧ SqL X.K H a (L.map (·.1)) ∧ (∀ z ∈ L, ∃ t, z.1 = .ref t ∧ SqT X.K H t (z.2.map V.int)) ∧ H P = some (.tbl ps) ∧ TriplesOk ps.toList ∧
 (∀ (pos : Pos) (cv : Value), codeAmong pos ps.toList = some cv → ∃ c, cv = .ref c ∧ H c = some (LamX.CodeO c lamQ)) ∧ ∀ (H1 : Hp) (p : Addr), LamStep H P ps H1 → H1 p = none → Q (.ref p) (upd H1 p (.lst ((L.mergeSort fun x y => sumLe x.2 y.2).map (·.1))))
section
variable {X : Cx} {W : WX} {Γx Γ : Ctx} {n lv : Nat} {m : List Nat} {pos p lpos kpos p1 p2 p3 p4 p5 : Pos} {e : Expr} {gs : List D → ER (List D)} {ks : List AK} {c P : Addr} {a : Str} {j : Nat} {params : Arguments} {scope : Scope} {t : TA}
structure LamSc (params : Arguments) (scope : Scope) (a : Str) (p1 p2 p3 p4 p5 : Pos) (j : Nat) : Prop where
 kind : scope.kind = .function
 co : scope.isCoroutine = false
 gen : scope.isGenerator = false
 names : ∀ y ∈ scope.names, y.2 ≠ .cell ∧ y.2 ≠ .free
 here : scope.names.lookup a = some .local
 glo : scope.names.lookup ("sum" : Str) = some .globalImplicit
 clo : ∀ cells, cloFrom cells scope.names [] = []
 plain : ∀ env, defaultsOf params env = ([], [])
 bind : ∀ (pm cv ctv : Value) (t : Addr), bindArgs (PySem.W.kla_fn "<lambda>" lamQ params (sumBody a p1 p2 p3 p4 p5 j) scope [] pm cv ctv) ⟨[.ref t], []⟩ = pure [(a, .ref t)]
 da : (a == ("__debug__" : Str)) = false
theorem pe_sortSum (hc : X.calm = true) (hr : Room lv X.A) (L : LamAt X c P) (hm : X.mg "sorted" = none) (hm2 : X.mg "sum" = none) (S : LamSc params scope a p1 p2 p3 p4 p5 j) (ha : PA X [e] t) (hg : Gl X "sorted" := by rfl)
 (he : backTo pos (starEach [e] X.env) = (false, eval e X.env) :: backTo pos (starEach [] X.env) := by rfl) (hpl : (backTo pos (starEach [e] X.env)).any (·.1) = false := by rfl) :
 PE X (.Call (.Name "sorted" p) [e] [⟨some "key", .Lambda params (sumBody a p1 p2 p3 p4 p5 j) scope lpos, kpos⟩] pos) (fun σ H Q => t σ H fun vs H1 => rSortSum X P vs H1 Q) := by
 refine ⟨fun pins s σ H Q I h => ?_⟩
 refine wpAny_Call_Name_kw (ld_blt I hg hm (u := .builtin "sorted") (by decide +kernel) ?_ (by decide) (by decide))
 refine PyProof.Rows.callWith_kw (thn (ha.run pos pins s σ H _ I h) fun us s1 ⟨vs, H1, I1, r1, q1⟩ => ?_) he hpl rfl rfl
 obtain ⟨ps, l, Z, rfl, hl, ht, hP, ok, codes, q⟩ := q1
 obtain rfl := Vals.ref1 r1
 show wpAny _ _ (evalAll ((do let v ← eval (.Lambda params (sumBody a p1 p2 p3 p4 p5 j) scope lpos) X.env; standAt pos; pure v) :: [])) _ _ s1
 refine wpAny_evalAll_cons (wpAny_bind (lam_make I1 L hP ok codes (S.plain _) (fun y hy => (S.names y hy).2) fun f c' pm ctv H2 s2 I2 st hf rc => wpAny_bind (wpAny_standAt (wpAny_pure (wpAny_evalAll_nil ?_)))))
 show wpAny _ _ (call (.builtin "sorted") [.ref l] [(Str.ofString "key", .ref f)]) _ _ s2
 rw [S.clo] at hf
 obtain ⟨its, rv, pl, hz⟩ := I2.list (st.sql hP hl)
 have each : PySem.W.EachIs (IsTupV s2.heap) its Z := by
  have ht2 : ∀ z ∈ Z, ∃ t, z.1 = .ref t ∧ SqT X.K H2 t (z.2.map V.int) := fun z hz => by
   obtain ⟨t, e1, e2⟩ := ht z hz
   exact ⟨t, e1, st.sqt hP e2⟩
  clear hl ht hz q pl
  generalize hW : Z.map (·.1) = W at rv
  induction rv generalizing Z with
  | nil =>
   cases Z with
   | nil => exact .nil
   | cons z Z => cases hW
  | @cons x u xs us r _ ih =>
   cases Z with
   | nil => cases hW
   | cons z Z =>
    rw [List.map_cons] at hW
    injection hW with h1 h2
    obtain ⟨t, e1, e2⟩ := ht2 z List.mem_cons_self
    obtain ⟨jts, rj, ⟨ob, g1, g2, n, g3⟩, _⟩ := Inv.tuple I2 e2
    have hu : u = .ref t := by
     rw [← h1, e1] at r
     exact r
    exact .cons ⟨by rw [h1]; exact r, t, jts, hu, ⟨ob, g1, g2, n, g3⟩, intsAre_of rj⟩ (ih Z (fun z hz => ht2 z (List.mem_cons_of_mem _ hz)) h2)
 have un := hr.un
 have dp := hr.dp
 obtain ⟨mb, b1, b2⟩ := I2.mod.blt
 refine PySem.W.sorted_key_data (b := false) (fun z : V × List Int => keySum z.2) pl.isList each (PySem.W.AllAlike.of fun x y => alike_key x.2 y.2) (PySem.W.Sortable.tuples fun x => ⟨_, _, rfl⟩) (by rw [List.length_map] at hz; exact hz) (fun x _ => by rw [depth_key]; omega) (ksk_s1 _ _) (fun _ => ksk_l1 _ _) (fun _ => ksk_t1 _ _)
  (fun v z hv _ h tk kp => ?_) fun out c0 h' tk kp fresh hD hlen eo => ?_
 · obtain ⟨rz, t, jts, ev, tt, ti⟩ := hv
   subst ev
   obtain ⟨c2, oc, vs2, tk2, ec, f1, f2, f3⟩ := rc
   cases ec
   have tt2 : h.IsTuple t jts.toArray := let ⟨ob, g1, g2, n, g3⟩ := tt; ⟨ob, kp _ _ g1, g2, n, g3⟩
   exact key_call (s := { s2 with heap := h, toks := tk }) (by show X.A.depth < _; omega) (I2.ok.hd hc) (kp _ _ hf) ⟨c', oc, vs2, tk2, rfl, kp _ _ f1, f2, f3⟩ ((I2.nolimit).keeps kp) ((I2.mod.glob.keeps I2.bk).keeps kp) ((b1.keeps I2.bk).keeps kp) hm2 ((b2 _ (by decide)).trans (by decide +kernel)) S.kind S.co S.gen (fun y hy => (S.names y hy).1) S.here S.glo (S.bind _ _ _ _) tt2 ti S.da
 · have sl : ((Z.mergeSort fun x y => sumLe x.2 y.2).map (·.1)).length ≤ sizeLine := by
    rw [List.length_map, List.length_mergeSort]
    rw [List.length_map] at hz
    exact hz
   exact ⟨.ref _, _, I2.laid (o := .lst ((Z.mergeSort fun x y => sumLe x.2 y.2).map (·.1))) kp (Nat.le_succ _) ⟨sl, out, c0, vals_each eo, hD⟩, rfl, q H2 _ st (I2.hok.fresh (Nat.le_succ _))⟩
def tupB : D → Bool
 | .tup es => es.all isI
 | _ => false
def tupZ : D → List Int
 | .tup es => es.map toI
 | _ => []
def fSortSum : List D → Option D
 | [.lst ds] => if ds.all tupB = true then some (.lst (ds.mergeSort fun x y => sumLe (tupZ x) (tupZ y))) else none
 | _ => none
theorem tupZ_int (l : List Int) : tupZ (.tup (l.map D.int)) = l := by
 show (l.map D.int).map toI = l
 rw [List.map_map]
 exact List.map_id _
theorem rpl_tupZ {K : PySem.W.Frag} {cl : CE} {H : Hp} : ∀ Z : List (V × List Int), (∀ z ∈ Z, ∃ t, z.1 = .ref t ∧ SqT K H t (z.2.map V.int)) → RpL K cl H (Z.map (·.1)) (Z.map fun z => D.tup (z.2.map D.int)) []
 | [], _ => .nil
 | z :: Z, h => by
  obtain ⟨t, e1, e2⟩ := h z List.mem_cons_self
  refine RpL.cons (f1 := []) (f2 := []) ?_ (rpl_tupZ Z fun y hy => h y (List.mem_cons_of_mem _ hy))
  show Rp K cl H z.1 (D.tup (z.2.map D.int)) []
  rw [e1]
  exact .tup e2 (rpl_ints _)
theorem tups_of {K : PySem.W.Frag} {cl : CE} {H : Hp} {ws : List V} {ds : List D} {f : List Addr} (h : RpL K cl H ws ds f) (hb : ds.all tupB = true) : ∃ Z : List (V × List Int), Z.map (·.1) = ws ∧ (Z.map fun z => D.tup (z.2.map D.int)) = ds ∧ ∀ z ∈ Z, ∃ t, z.1 = .ref t ∧ SqT K H t (z.2.map V.int) := by
 induction ds generalizing ws f with
 | nil =>
  obtain ⟨rfl, _⟩ := h.nil_inv
  exact ⟨[], rfl, rfl, by simp⟩
 | cons d ds ih =>
  obtain ⟨v, vs, f1, f2, rfl, rfl, r, rl⟩ := h.cons_inv
  rw [List.all_cons, Bool.and_eq_true] at hb
  obtain ⟨Z, e1, e2, e3⟩ := ih rl hb.2
  have hd := hb.1
  cases r with
  | tup hs r =>
   obtain ⟨bs, q1, q2⟩ := r.ints hd
   subst q1 q2
   exact ⟨(_, bs) :: Z, by rw [List.map_cons, e1], by rw [List.map_cons, e2], fun z hz => (List.mem_cons.mp hz).elim (fun e => by rw [e]; exact ⟨_, rfl, hs⟩) (e3 z)⟩
  | _ => cases hd
theorem ej_sortSum (hc : X.calm = true) (hr : Room lv X.A) (L : LamAt X c P) (it : IsTab X.K (clX X) P) (hm : X.mg "sorted" = none) (hm2 : X.mg "sum" = none) (S : LamSc params scope a p1 p2 p3 p4 p5 j) (ha : AJ X W Γx Γ n m [e] gs ks) (ho : ks.all valA = true := by rfl) (hg : Gl X "sorted" := by rfl)
 (he : backTo pos (starEach [e] X.env) = (false, eval e X.env) :: backTo pos (starEach [] X.env) := by rfl) (hpl : (backTo pos (starEach [e] X.env)).any (·.1) = false := by rfl) :
 EJ X W Γx Γ n m (.Call (.Name "sorted" p) [e] [⟨some "key", .Lambda params (sumBody a p1 p2 p3 p4 p5 j) scope lpos, kpos⟩] pos) (eCall1 fSortSum gs) .own := by
 refine pe_imp (pe_sortSum hc hr L hm hm2 S ha hg he hpl) fun σ H Q h => ?_
 obtain ⟨σD, lab, g, sr, po⟩ := h
 refine ⟨σD, lab, g, sr, po.last fun ds σD1 vs H1 lab1 s1 pr1 ar po1 => ?_⟩
 cases ez : fSortSum ds with
 | none => rw [ez] at po1; exact po1.elim
 | some z =>
  rw [ez] at po1
  unfold fSortSum at ez
  split at ez
  · rename_i es
    split at ez
    · rename_i hb
      cases ez
      obtain ⟨fp, rl, _⟩ := ar.mix ho
      obtain ⟨v, f, rfl, rr⟩ := rl.one_inv
      cases rr with
      | lst h2 r2 =>
       obtain ⟨Z, ew, ed, ht⟩ := tups_of r2 hb
       obtain ⟨ps, t1, t2, t3⟩ := s1.tb P it
       refine ⟨ps, _, Z, rfl, .inl (.inl (by rw [ew]; exact h2)), ht, t1, t2, fun pos cv h => let ⟨c, e1, e2, _⟩ := t3 pos cv h; ⟨c, e1, e2⟩, fun H2 q st hq => ?_⟩
       have P1 : Pres [] n H1 lab1 H2 (labLam H1 lab1) := st.pres ⟨t1, t2, t3⟩
       have P2 : Pres [] n H2 (labLam H1 lab1) (upd H2 q (.lst ((Z.mergeSort fun x y => sumLe x.2 y.2).map (·.1)))) (setL (labLam H1 lab1) q (.tmp n)) := .alloc hq rfl
       have PP := P1.trans P2 (SubK.refl _ _) (SubK.refl _ _)
       have em : es.mergeSort (fun x y => sumLe (tupZ x) (tupZ y)) = (Z.mergeSort fun x y => sumLe x.2 y.2).map fun z => D.tup (z.2.map D.int) := by
        rw [← ed]
        refine (List.map_mergeSort fun x _ y _ => ?_).symm
        rw [tupZ_int, tupZ_int]
       refine po1 (.ref q) _ _ (s1.pres g PP) PP ?_
       rw [em]
       refine ⟨[q], .lst upd_same (rpl_tupZ _ fun z hz => ?_), by simp, fun b hb => ?_⟩
       · obtain ⟨t, e1, e2⟩ := ht z (List.mem_mergeSort.mp hz)
         exact ⟨t, e1, PP.tk.sqt e2⟩
       · rw [List.mem_singleton.mp hb]
         exact if_pos rfl
    · cases ez
  · cases ez
end
structure FazT (fa : List He.Fa) (fn : List He.DefD) (cs : List (Str × D)) (K : PySem.W.Frag) (mg : Str → Option Value) (base : Heap) : Prop extends Faz fa fn cs K mg where
 tb : LamX.TabB base mg (He.cT K (lamD, none)).1 (He.cT K (lamD, none)).2
 it : IsTab K (clM mg) (He.cT K (lamD, none)).2
section
variable {P : Program} {w : World} {K : PySem.W.Frag} {mg : Str → Option Value} {base : Heap}
theorem fncL_of {fa : List He.Fa} {fn : List He.DefD} {cs : List (Str × D)} (c : FazT fa fn cs K mg base) (i j : Nat) {params : Arguments} {body : List Stmt} {scope : Scope} {N ps : List Str} {lv np nl : Nat} {io m : List Nat} {own : Ret} {G : List D → SO} {Γ' : Ctx}
 (hd : fn[i]? = some ⟨(lamD, none), lamD, lamD, params, body, scope, [], []⟩) (hj : fa[j]? = some (.glo lamD)) (S : FnScope N ps scope) (hnp : ps.length = np) (hnl : N.length = nl) (hio : io.all (fun i => decide (i < np)) = true) (hpn : np ≤ nl) (hl : leC Γ' (ctxIo nl io) = true)
 (hbd : ∀ (kV doc pm : Value) (an : Option Addr) (cdv ct : Value) (us : List Value), us.length = ps.length → bindArgs (PySem.W.fnOf lamD lamD params body scope .none kV doc pm an cdv ct) ⟨us, []⟩ = pure (ps.zip us))
 (hb : ∀ (cc Q : Addr) (A : Around) (outer : List Env) (s : Shared) (H : Hp) (E : XK), Room lv (A.deeper (envOfC lamD scope s.heap.objs.size (He.fAd K (lamD, none)) (.ref cc))) →
  LamAt (cxOf (L2N.CX P w) P w K mg base N lamD scope (He.fAd K (lamD, none)) (.ref cc) A outer s H E) cc Q → IsTab K (clX (cxOf (L2N.CX P w) P w K mg base N lamD scope (He.fAd K (lamD, none)) (.ref cc) A outer s H E)) Q →
  BJ (cxOf (L2N.CX P w) P w K mg base N lamD scope (He.fAd K (lamD, none)) (.ref cc) A outer s H E) (wOf E) (scOf nl io own) (ctx0 np nl io [] own) Γ' 0 m body G) :
 Fnc P w K mg base lamD (lv + 1) np io own (fnD nl io G) := by
 obtain ⟨fd, F⟩ := c.s.def_ i hd
 refine ⟨He.fAd K (lamD, none), fd, ps, ?_, c.glo j hj, F.kp, FunD.bindsN F hbd⟩
 obtain ⟨oc, od, dV, kV, doc, pm, an, cdv, ct, osl, rfl, look, coded, _, _⟩ := F.ex
 refine fn_of look coded S (fun vs H Q E h => ?_) fun A outer s H vs Q E hr h => ?_
 · obtain ⟨ds, lab, h1, _⟩ := h
   rw [h1, hnp]
 · obtain ⟨cc, rfl⟩ : ∃ cc, cdv = .ref cc := by
    cases cdv with
    | ref cc => exact ⟨cc, rfl⟩
    | _ => cases coded
   have ec : (He.cT K (lamD, none)).1 = cc := He.codeOf_eq look rfl
   have tb := c.tb
   rw [ec] at tb
   exact ⟨_, hb cc _ A outer s H E hr ⟨tb, rfl, (by decide +kernel : lamD ++ (".<locals>." : Str) ++ ("<lambda>" : Str) = lamQ)⟩ c.it, okD_read (X := cxOf (L2N.CX P w) P w K mg base N lamD scope (He.fAd K (lamD, none)) (.ref cc) A outer s H E) (CEq.calm rfl) hnl hio hpn hl h⟩
theorem law_ofT {B : Heap → Prop} {fa : List He.Fa} {fn : List He.DefD} (c : Fax fa fn K mg) (i j : Nat) {x y : Str} {params : Arguments} {body : List Stmt} {scope : Scope} {N : List Str} {lv nl : Nat} {m : List Nat} {own : Ret} {G : List D → SO} {Γ' : Ctx} {f : Addr} (hf : mg x = some (.ref f))
 (hd : fn[i]? = some ⟨(x, none), x, x, params, body, scope, [], []⟩) (hj : fa[j]? = some (.glo x)) (S : FnScope N [y] scope) (hnl : N.length = nl) (hpn : 1 ≤ nl) (hl : leC Γ' (ctxIo nl []) = true)
 (hbd : ∀ (kV doc pm : Value) (an : Option Addr) (cdv ct : Value) (us : List Value), us.length = [y].length → bindArgs (PySem.W.fnOf x x params body scope .none kV doc pm an cdv ct) ⟨us, []⟩ = pure ([y].zip us))
 (hb : ∀ (base : Heap), B base → ∀ (cdv : Value) (A : Around) (outer : List Env) (s : Shared) (H : Hp) (E : XK), Room lv (A.deeper (envOfC x scope s.heap.objs.size (He.fAd K (x, none)) cdv)) →
  BJ (cxOf (L2N.CX P w) P w K mg base N x scope (He.fAd K (x, none)) cdv A outer s H E) (wOf E) (scOf nl [] own) (ctx0 1 nl [] [] own) Γ' 0 m body G) :
 ∃ fd : FuncData, (∀ (s : Shared) (u : Value), BindsTo s fd ⟨[u], []⟩ [(y, u)]) ∧ ∀ base : Heap, B base → FnOk P w K mg base (L2N.CX P w) (lv + 1) f fd [y] (spD K (clM mg) 1 [] [] own (fnD nl [] G)) := by
 obtain ⟨fd, F⟩ := c.s.def_ i hd
 have e := hf.symm.trans (c.glo j hj)
 cases e
 exact ⟨fd, fun s u => FunD.bindsA F hbd s [u] rfl, fun base tb => okF F S rfl hnl (by decide) hpn hl (hb base tb)⟩
theorem isTab_of {fa : List He.Fa} {fn : List He.DefD} (c : Fax fa fn K mg) (i j : Nat) {params : Arguments} {body : List Stmt} {scope : Scope} (hd : fn[i]? = some ⟨(lamD, none), lamD, lamD, params, body, scope, [], []⟩) (hj : fa[j]? = some (.glo lamD))
 (hh : PySem.W.codeHdIn K (He.cT K (lamD, none)).1 (He.cT K (lamD, none)).2 = true) : IsTab K (clM mg) (He.cT K (lamD, none)).2 := by
 obtain ⟨fd, F⟩ := c.s.def_ i hd
 obtain ⟨oc, od, dV, kV, doc, pm, an, cdv, ct, osl, rfl, look, coded, _, _⟩ := F.ex
 obtain ⟨cc, rfl⟩ : ∃ cc, cdv = .ref cc := by
  cases cdv with
  | ref cc => exact ⟨cc, rfl⟩
  | _ => cases coded
 have ec : (He.cT K (lamD, none)).1 = cc := He.codeOf_eq look rfl
 rw [ec] at hh
 unfold PySem.W.codeHdIn at hh
 split at hh
 · rename_i vs _ lk
   simp only [Bool.and_eq_true] at hh
   have h1 := hh.1.1.1.1.1
   split at h1
   · rename_i P' e
     have e2 := beq_iff_eq.mp h1
     rw [e2] at e
     exact ⟨_, _, _, cc, _, vs, c.glo j hj, look, rfl, rfl, lk, rfl, e⟩
   · cases h1
 · cases hh
theorem sp_lawT {ce : CE} {H : Hp} {a Q : Addr} {ns : List Int} {Fd : List D → FR} (hT : H Q = some (.tbl #[])) (hU : ∀ P', IsTab K ce P' → P' = Q) (hS : SqL K H a (ns.map V.int)) (h1 : ∃ outs, Fd [.fzl (ns.map D.int)] = .ret (.bl true) outs) (h2 : ∃ outs, Fd [.lst (ns.map D.int)] = .ret (.bl true) outs) :
 spD K ce 1 [] [] Ret.T Fd [.ref a] H (fun v _ => v = .bl true) fun _ _ _ => False := by
 have tab : ∀ lab : Labs, TbOk K ce H lab := fun lab P' hP => by
  rw [hU P' hP]
  refine ⟨#[], hT, True.intro, fun pos cv h => ?_⟩
  have z : codeAmong pos [] = some cv := h
  simp [codeAmong] at z
 obtain ⟨d, fp, lab, rd, rl, fd, lo⟩ : ∃ (d : D) (fp : List Addr) (lab : Labs), Rp K ce H (.ref a) d fp ∧ (∀ b ∈ fp, bw [.prm] (lab b)) ∧ (∃ outs, Fd [d] = .ret (.bl true) outs) ∧ ∀ b, lab b = .out ∨ lab b = .prm := by
  rcases hS with (hS | ⟨o, hS⟩) | hS
  · exact ⟨_, [a], fun _ => .prm, .lst hS (rpl_ints ns), fun _ _ => .inr (by simp), h2, fun _ => .inr rfl⟩
  · exact ⟨_, [], fun _ => .out, .lsf (.inl ⟨o, hS⟩) (rpl_ints ns), by simp, h1, fun _ => .inl rfl⟩
  · exact ⟨_, [], fun _ => .out, .lsf (.inr hS) (rpl_ints ns), by simp, h1, fun _ => .inl rfl⟩
 obtain ⟨outs, h⟩ := fd
 refine ⟨[d], lab, rfl, rfl, fun i v d' e1 e2 => ?_, fun b _ => (lo b).imp id .inl, tab lab, ?_⟩
 · cases i with
   | zero =>
    cases e1
    cases e2
    exact ⟨fp, rd, rl⟩
   | succ i => simp at e1
 · rw [h]
   intro v H' lab' j _ _ r
   have e : VR K ce H' lab' (retK Ret.T) (.tmp j) v (.bl true) := r
   exact e.bl
theorem walk_owT {l : PySem.W.OpenLaw} {n k : Nat} {q : Program} {loose : List Str} {XP : (Str → Option Value) → Heap → Prop} {YP : World → Heap → Prop} {d : DefRec} {x : Str} {Fd : List D → FR}
 (most : l.most = some n) (fits : n ≤ sizeLine) (plain : d.params.defaults = []) (room : Room k callerA)
 (F : ∀ (w : World) (mg : Str → Option Value) (fa : Addr) (h : Heap), YP w h → h.Ns mainGlobals mg → mg d.name = some (.ref fa) →
  ∃ (K : PySem.W.Frag) (fd : FuncData) (c P : Addr), K.In h ∧ h.get? P = some { cls := .none, data := .fields #[] } ∧ K.lookup P = none ∧ PySem.W.CodeHd h c P ∧ IsTab K (clM mg) P ∧ (∀ (s : Shared) (u : Value), BindsTo s fd ⟨[u], []⟩ [(x, u)]) ∧
   ∀ base : Heap, K.In base → base.Ns mainGlobals mg → LamX.TabB base mg c P → FnOk l.prog w K mg base (L2N.CX l.prog w) k fa fd [x] (spD K (clM mg) 1 [] [] Ret.T Fd))
 (law : ∀ ns : List Int, ns.length ≤ n → (∀ z ∈ ns, Builtin.Int.intBits z ≤ 1048576) → (∃ outs, Fd [.fzl (ns.map D.int)] = .ret (.bl true) outs) ∧ ∃ outs, Fd [.lst (ns.map D.int)] = .ret (.bl true) outs) :
 PySem.W.WalkO q loose XP YP l.row.toRowW d [] (fun f vs => PySem.call f vs) :=
 Att.attach_callB most plain fun w _ s mg _ fa _ _ _ _ a _ ns G Y _ _ _ named script whole few bits noGens => by
  obtain ⟨K, fd, c, P, inK, empty, out, code, tab, binds, promise⟩ := F w mg fa _ Y G.T.g named
  have one : ∀ P', IsTab K (clM mg) P' → P' = P := fun P' h => h.inj (fun f f' e1 e2 => by
   have e1 : mg lamD = some (.ref f) := e1
   have e2 : mg lamD = some (.ref f') := e2
   rw [e1] at e2
   cases e2
   rfl) tab
  obtain ⟨law1, law2⟩ := law ns few bits
  have all : ∀ {B : Addr × Addr → Prop}, B (c, P) → ∀ p ∈ [(c, P)], B p := fun {B} h p hp => by
   rw [List.mem_singleton.mp hp]
   exact h
  refine LamX.law_callTs (cs := [(c, P)]) inK G.T.g G.T.b G.T.builtins G.T.nolimit noGens (all empty) (all out) (all code) G.T.bmain script whole (Nat.le_trans few fits) room (fun base i1 i2 tb => promise base i1 i2 (tb _ List.mem_cons_self)) binds
   (fun H hH hS => sp_lawT (hH (c, P) List.mem_cons_self) one hS law1 law2) ?_
  rintro H e s' ⟨_, _, _, _, _, _, _, _, _, _, _, _, z⟩
  exact z.elim
end
end Ow
namespace Ow
open PySem PySem.Spec PySem.SeqAt PySem.W PyProof.Rows L2
section
variable {X : Cx} {W : WX} {Γx Γ : Ctx} {n : Nat} {m : List Nat} {pos p : Pos} {e : Expr} {gs : List D → ER (List D)} {k : Kd}
end
end Ow
namespace Ow
open PySem PySem.Spec PyProof.Rows L2
def SO.bnd (r : SO) (G : List D → SO) : SO := match r with
 | .nxt σ1 => G σ1
 | r => r
def FR.er (r : FR) (rs : List Nat) (σ1 : List D) : ER D := match r with
 | .stuck => .stuck
 | .ret d outs => .ok d (putOuts rs outs σ1)
 | .exc c p outs => .exc c p (putOuts rs outs σ1)
def SO.fin (r : SO) (io : List Nat) : FR := match r with
 | .nxt σ => .ret .non (io.map fun i => σ.getD i .non)
 | .ret d σ => .ret d (io.map fun i => σ.getD i .non)
 | .exc c p σ => .exc c p (io.map fun i => σ.getD i .non)
 | _ => .stuck
section
variable {α β : Type} {σ σ1 : List D} {io rs : List Nat}
theorem bnd_nxt (σ : List D) (G : List D → SO) : (SO.nxt σ).bnd G = G σ := (rfl)
theorem bnd_ret (d : D) (σ : List D) (G : List D → SO) : (SO.ret d σ).bnd G = .ret d σ := (rfl)
theorem bnd_exc (c : Str) (p : D) (σ : List D) (G : List D → SO) : (SO.exc c p σ).bnd G = .exc c p σ := (rfl)
theorem bnd_brk (σ : List D) (G : List D → SO) : (SO.brk σ).bnd G = .brk σ := (rfl)
theorem bnd_cnt (σ : List D) (G : List D → SO) : (SO.cnt σ).bnd G = .cnt σ := (rfl)
theorem er_ret (d : D) (outs : List D) (rs : List Nat) (σ : List D) : (FR.ret d outs).er rs σ = .ok d (putOuts rs outs σ) := (rfl)
theorem er_exc (c : Str) (p : D) (outs : List D) (rs : List Nat) (σ : List D) : (FR.exc c p outs).er rs σ = .exc c p (putOuts rs outs σ) := (rfl)
theorem fin_nxt (σ : List D) (io : List Nat) : (SO.nxt σ).fin io = .ret .non (io.map fun i => σ.getD i .non) := (rfl)
theorem fin_ret (d : D) (σ : List D) (io : List Nat) : (SO.ret d σ).fin io = .ret d (io.map fun i => σ.getD i .non) := (rfl)
theorem fin_exc (c : Str) (p : D) (σ : List D) (io : List Nat) : (SO.exc c p σ).fin io = .exc c p (io.map fun i => σ.getD i .non) := (rfl)
theorem a_fnD {nl : Nat} {io : List Nat} {G : List D → SO} {ds : List D} : fnD nl io G ds = (G (ds ++ List.replicate (nl - ds.length) .non)).fin io := by
 unfold fnD; cases G (ds ++ List.replicate (nl - ds.length) .non) <;> rfl
theorem a_seq {A B : List D → SO} : sSeq A B σ = (A σ).bnd B := by unfold sSeq SO.bnd; cases A σ <;> rfl
theorem a_skip : sSkip σ = .nxt σ := (rfl)
theorem a_retV {i : Nat} : sRetV i σ = .ret (σ.getD i .non) σ := (rfl)
theorem a_retN : sRetN σ = .ret .non σ := (rfl)
theorem a_brk : sBrk σ = .brk σ := (rfl)
theorem a_cnt : sCnt σ = .cnt σ := (rfl)
theorem a_raise {c : Str} : sRaise c σ = .exc c .non σ := (rfl)
theorem a_var {i : Nat} : eVar i σ = .ok (σ.getD i .non) σ := (rfl)
theorem a_c {d : D} : eC d σ = .ok d σ := (rfl)
theorem a_nil : aNil σ = .ok [] σ := (rfl)
theorem o_some {α : Type} (a : α) (σ : List D) : ofO (some a) σ = .ok a σ := (rfl)
def soO (o : Option (List D)) : SO := match o with
 | some c => .nxt c
 | none => .stuck
theorem soO_some {c : List D} : soO (some c) = .nxt c := (rfl)
def ifK (A B : List D → SO) (e0 : ER (Bool)) : SO := match e0 with
 | .stuck => .stuck
 | .ok b σ1 => if b = true then A σ1 else B σ1
 | .exc c p σ1 => .exc c p σ1
theorem ifK_x {A B : List D → SO} {c : Str} {p : D} : ifK A B (.exc c p σ) = .exc c p σ := (rfl)
theorem ifK_t {A B : List D → SO} : ifK A B (.ok true σ) = A σ := (rfl)
theorem ifK_f {A B : List D → SO} : ifK A B (.ok false σ) = B σ := (rfl)
def retK1  (e0 : ER (D)) : SO := match e0 with
 | .stuck => .stuck
 | .ok d σ1 => .ret d σ1
 | .exc c p σ1 => .exc c p σ1
theorem retK1_x  {c : Str} {p : D} : retK1  (.exc c p σ) = .exc c p σ := (rfl)
theorem retK1_o  {d : D} : retK1  (.ok d σ) = .ret d σ := (rfl)
def setK (i : Nat) (e0 : ER (D)) : SO := match e0 with
 | .stuck => .stuck
 | .ok d σ1 => .nxt (σ1.set i d)
 | .exc c p σ1 => .exc c p σ1
theorem setK_x {i : Nat} {c : Str} {p : D} : setK i (.exc c p σ) = .exc c p σ := (rfl)
theorem setK_o {i : Nat} {d : D} : setK i (.ok d σ) = .nxt (σ.set i d) := (rfl)
def dropK1  (e0 : ER (D)) : SO := match e0 with
 | .stuck => .stuck
 | .ok d σ1 => .nxt σ1
 | .exc c p σ1 => .exc c p σ1
theorem dropK1_x  {c : Str} {p : D} : dropK1  (.exc c p σ) = .exc c p σ := (rfl)
theorem dropK1_o  {d : D} : dropK1  (.ok d σ) = .nxt σ := (rfl)
def parK1 (i j : Nat) (e0 : ER (List D)) : SO := match e0 with
 | .stuck => .stuck
 | .ok ds σ1 => soO (match ds with | [x, y] => some ((σ1.set i x).set j y) | _ => none)
 | .exc c p σ1 => .exc c p σ1
theorem parK1_x {i j : Nat} {c : Str} {p : D} : parK1 i j (.exc c p σ) = .exc c p σ := (rfl)
theorem parK1_o {i j : Nat} {x y : D} : parK1 i j (.ok [x, y] σ) = .nxt ((σ.set i x).set j y) := (rfl)
def setix3 (r : Nat) (v : D) (e0 : ER (D)) : SO := match e0 with
 | .stuck => .stuck
 | .ok i σ1 => soO ((dSetIx (σ1.getD r .non) i v).map fun c => σ1.set r c)
 | .exc c p σ1 => .exc c p σ1
theorem setix3_x {r : Nat} {v : D} {c : Str} {p : D} : setix3 r v (.exc c p σ) = .exc c p σ := (rfl)
def setix4 (r : Nat) (σ1 : List D) (o : Option D) : SO := match o with
 | some c => .nxt (σ1.set r c)
 | none => .stuck
theorem setix4_s {r : Nat} {c : D} : setix4 r σ (some c) = .nxt (σ.set r c) := (rfl)
theorem setix3_o {r : Nat} {v i : D} : setix3 r v (.ok i σ) = setix4 r σ (dSetIx (σ.getD r .non) i v) := by
 show soO _ = _
 cases dSetIx (σ.getD r .non) i v <;> rfl
def unpK (T : Tg) (e0 : ER (D)) : SO := match e0 with
 | .stuck => .stuck
 | .ok d σ1 => soO (bindT T d σ1)
 | .exc c p σ1 => .exc c p σ1
theorem unpK_x {T : Tg} {c : Str} {p : D} : unpK T (.exc c p σ) = .exc c p σ := (rfl)
theorem unpK_o {T : Tg} {d : D} : unpK T (.ok d σ) = soO (bindT T d σ) := (rfl)
def forK (T : Tg) (G : List D → SO) (e0 : ER (List D)) : SO := match e0 with
 | .stuck => .stuck
 | .ok ds σ1 => forL T G ds σ1
 | .exc c p σ1 => .exc c p σ1
theorem forK_x {T : Tg} {G : List D → SO} {c : Str} {p : D} : forK T G (.exc c p σ) = .exc c p σ := (rfl)
theorem forK_o {T : Tg} {G : List D → SO} {ds : List D} : forK T G (.ok ds σ) = forL T G ds σ := (rfl)
def bin3 (f : D → D → Option D) (x : D) (e0 : ER (D)) : ER D := match e0 with
 | .stuck => .stuck
 | .ok y σ1 => ofO (f x y) σ1
 | .exc c p σ1 => .exc c p σ1
theorem bin3_x {f : D → D → Option D} {x : D} {c : Str} {p : D} : bin3 f x (.exc c p σ) = .exc c p σ := (rfl)
theorem bin3_o {f : D → D → Option D} {x : D} {y : D} : bin3 f x (.ok y σ) = ofO (f x y) σ := (rfl)
def un2 (f : D → Option D) (e0 : ER (D)) : ER D := match e0 with
 | .stuck => .stuck
 | .ok x σ1 => ofO (f x) σ1
 | .exc c p σ1 => .exc c p σ1
theorem un2_x {f : D → Option D} {c : Str} {p : D} : un2 f (.exc c p σ) = .exc c p σ := (rfl)
theorem un2_o {f : D → Option D} {x : D} : un2 f (.ok x σ) = ofO (f x) σ := (rfl)
def cons3 (d : D) (e0 : ER (List D)) : ER (List D) := match e0 with
 | .stuck => .stuck
 | .ok ds σ1 => .ok (d :: ds) σ1
 | .exc c p σ1 => .exc c p σ1
theorem cons3_x {d : D} {c : Str} {p : D} : cons3 d (.exc c p σ) = .exc c p σ := (rfl)
theorem cons3_o {d : D} {ds : List D} : cons3 d (.ok ds σ) = .ok (d :: ds) σ := (rfl)
def slot2 (r : Nat) (e0 : ER (List D)) : ER (List D) := match e0 with
 | .stuck => .stuck
 | .ok ds σ1 => .ok (σ1.getD r .non :: ds) σ1
 | .exc c p σ1 => .exc c p σ1
theorem slot2_x {r : Nat} {c : Str} {p : D} : slot2 r (.exc c p σ) = .exc c p σ := (rfl)
theorem slot2_o {r : Nat} {ds : List D} : slot2 r (.ok ds σ) = .ok (σ.getD r .non :: ds) σ := (rfl)
def tup2  (e0 : ER (List D)) : ER D := match e0 with
 | .stuck => .stuck
 | .ok ds σ1 => .ok (.tup ds) σ1
 | .exc c p σ1 => .exc c p σ1
theorem tup2_x  {c : Str} {p : D} : tup2  (.exc c p σ) = .exc c p σ := (rfl)
theorem tup2_o  {ds : List D} : tup2  (.ok ds σ) = .ok (.tup ds) σ := (rfl)
def lst2  (e0 : ER (List D)) : ER D := match e0 with
 | .stuck => .stuck
 | .ok ds σ1 => .ok (.lst ds) σ1
 | .exc c p σ1 => .exc c p σ1
theorem lst2_x  {c : Str} {p : D} : lst2  (.exc c p σ) = .exc c p σ := (rfl)
theorem lst2_o  {ds : List D} : lst2  (.ok ds σ) = .ok (.lst ds) σ := (rfl)
def c12 (f : List D → Option D) (e0 : ER (List D)) : ER D := match e0 with
 | .stuck => .stuck
 | .ok ds σ1 => ofO (f ds) σ1
 | .exc c p σ1 => .exc c p σ1
theorem c12_x {f : List D → Option D} {c : Str} {p : D} : c12 f (.exc c p σ) = .exc c p σ := (rfl)
theorem c12_o {f : List D → Option D} {ds : List D} : c12 f (.ok ds σ) = ofO (f ds) σ := (rfl)
def call2 (F : List D → FR) (rs : List Nat) (e0 : ER (List D)) : ER D := match e0 with
 | .stuck => .stuck
 | .ok ds σ1 => (F ds).er rs σ1
 | .exc c p σ1 => .exc c p σ1
theorem call2_x {F : List D → FR} {rs : List Nat} {c : Str} {p : D} : call2 F rs (.exc c p σ) = .exc c p σ := (rfl)
theorem call2_o {F : List D → FR} {rs : List Nat} {ds : List D} : call2 F rs (.ok ds σ) = (F ds).er rs σ := (rfl)
def flat2  (e0 : ER (D)) : ER D := match e0 with
 | .stuck => .stuck
 | .ok d σ1 => if d.flat = true then .ok d σ1 else .stuck
 | .exc c p σ1 => .exc c p σ1
theorem flat2_x  {c : Str} {p : D} : flat2  (.exc c p σ) = .exc c p σ := (rfl)
theorem flat2_o {d : D} (h : d.flat = true) : flat2 (.ok d σ) = .ok d σ := if_pos h
theorem flat2_i {i : Int} : flat2 (.ok (.int i) σ) = .ok (.int i) σ := (rfl)
theorem flat2_b {i : Bool} : flat2 (.ok (.bl i) σ) = .ok (.bl i) σ := (rfl)
theorem flat2_s {i : Str} : flat2 (.ok (.str i) σ) = .ok (.str i) σ := (rfl)
theorem flat2_n : flat2 (.ok .non σ) = .ok .non σ := (rfl)
def flatL2  (e0 : ER (D)) : ER D := match e0 with
 | .stuck => .stuck
 | .ok d σ1 => match d with | .lst ds => if D.flats ds = true then .ok d σ1 else .stuck | _ => .stuck
 | .exc c p σ1 => .exc c p σ1
theorem flatL2_x  {c : Str} {p : D} : flatL2  (.exc c p σ) = .exc c p σ := (rfl)
def tof2  (e0 : ER (D)) : ER Bool := match e0 with
 | .stuck => .stuck
 | .ok d σ1 => match d with | .bl b => .ok b σ1 | _ => .stuck
 | .exc c p σ1 => .exc c p σ1
theorem tof2_x  {c : Str} {p : D} : tof2  (.exc c p σ) = .exc c p σ := (rfl)
theorem tof2_o {b : Bool} : tof2 (.ok (.bl b) σ) = .ok b σ := (rfl)
def tru2  (e0 : ER (D)) : ER Bool := match e0 with
 | .stuck => .stuck
 | .ok d σ1 => ofO d.truth σ1
 | .exc c p σ1 => .exc c p σ1
theorem tru2_x  {c : Str} {p : D} : tru2  (.exc c p σ) = .exc c p σ := (rfl)
theorem tru2_o  {d : D} : tru2  (.ok d σ) = ofO d.truth σ := (rfl)
def tnot2  (e0 : ER (Bool)) : ER Bool := match e0 with
 | .stuck => .stuck
 | .ok b σ1 => .ok (!b) σ1
 | .exc c p σ1 => .exc c p σ1
theorem tnot2_x  {c : Str} {p : D} : tnot2  (.exc c p σ) = .exc c p σ := (rfl)
theorem tnot2_o  {b : Bool} : tnot2  (.ok b σ) = .ok (!b) σ := (rfl)
def tand2 (h : List D → ER Bool) (e0 : ER (Bool)) : ER Bool := match e0 with
 | .stuck => .stuck
 | .ok b σ1 => if b = true then h σ1 else .ok false σ1
 | .exc c p σ1 => .exc c p σ1
theorem tand2_x {h : List D → ER Bool} {c : Str} {p : D} : tand2 h (.exc c p σ) = .exc c p σ := (rfl)
theorem tand2_t {h : List D → ER Bool} : tand2 h (.ok true σ) = h σ := (rfl)
theorem tand2_f {h : List D → ER Bool} : tand2 h (.ok false σ) = .ok false σ := (rfl)
def tor2 (h : List D → ER Bool) (e0 : ER (Bool)) : ER Bool := match e0 with
 | .stuck => .stuck
 | .ok b σ1 => if b = true then .ok true σ1 else h σ1
 | .exc c p σ1 => .exc c p σ1
theorem tor2_x {h : List D → ER Bool} {c : Str} {p : D} : tor2 h (.exc c p σ) = .exc c p σ := (rfl)
theorem tor2_t {h : List D → ER Bool} : tor2 h (.ok true σ) = .ok true σ := (rfl)
theorem tor2_f {h : List D → ER Bool} : tor2 h (.ok false σ) = h σ := (rfl)
def and2 (h : List D → ER D) (e0 : ER (D)) : ER D := match e0 with
 | .stuck => .stuck
 | .ok d σ1 => match d with | .bl true => h σ1 | .bl false => .ok (.bl false) σ1 | _ => .stuck
 | .exc c p σ1 => .exc c p σ1
theorem and2_x {h : List D → ER D} {c : Str} {p : D} : and2 h (.exc c p σ) = .exc c p σ := (rfl)
theorem and2_t {h : List D → ER D} : and2 h (.ok (.bl true) σ) = h σ := (rfl)
theorem and2_f {h : List D → ER D} : and2 h (.ok (.bl false) σ) = .ok (.bl false) σ := (rfl)
def or2 (h : List D → ER D) (e0 : ER (D)) : ER D := match e0 with
 | .stuck => .stuck
 | .ok d σ1 => match d with | .bl true => .ok (.bl true) σ1 | .bl false => h σ1 | _ => .stuck
 | .exc c p σ1 => .exc c p σ1
theorem or2_x {h : List D → ER D} {c : Str} {p : D} : or2 h (.exc c p σ) = .exc c p σ := (rfl)
theorem or2_t {h : List D → ER D} : or2 h (.ok (.bl true) σ) = .ok (.bl true) σ := (rfl)
theorem or2_f {h : List D → ER D} : or2 h (.ok (.bl false) σ) = h σ := (rfl)
def eif2 (g h : List D → ER D) (e0 : ER (Bool)) : ER D := match e0 with
 | .stuck => .stuck
 | .ok b σ1 => if b = true then g σ1 else h σ1
 | .exc c p σ1 => .exc c p σ1
theorem eif2_x {g h : List D → ER D} {c : Str} {p : D} : eif2 g h (.exc c p σ) = .exc c p σ := (rfl)
theorem eif2_t {g h : List D → ER D} : eif2 g h (.ok true σ) = g σ := (rfl)
theorem eif2_f {g h : List D → ER D} : eif2 g h (.ok false σ) = h σ := (rfl)
def isx2 (hit : Str → Option Bool) (e0 : ER (D)) : ER D := match e0 with
 | .stuck => .stuck
 | .ok d σ1 => match d with | .exn c _ => ofO ((hit c).map .bl) σ1 | _ => .stuck
 | .exc c p σ1 => .exc c p σ1
theorem isx2_x {hit : Str → Option Bool} {c : Str} {p : D} : isx2 hit (.exc c p σ) = .exc c p σ := (rfl)
theorem isx2_p {hit : Str → Option Bool} {c : Str} {p : D} {b : Bool} (h2 : hit c = some b) : isx2 hit (.ok (.exn c p) σ) = .ok (.bl b) σ := by show ofO ((hit c).map D.bl) σ = _; rw [h2]; rfl
def meth3 (f : D → List D → Option D) (d : D) (e0 : ER (List D)) : ER D := match e0 with
 | .stuck => .stuck
 | .ok ds σ1 => ofO (f d ds) σ1
 | .exc c p σ1 => .exc c p σ1
theorem meth3_x {f : D → List D → Option D} {d : D} {c : Str} {p : D} : meth3 f d (.exc c p σ) = .exc c p σ := (rfl)
theorem meth3_o {f : D → List D → Option D} {d : D} {ds : List D} : meth3 f d (.ok ds σ) = ofO (f d ds) σ := (rfl)
def mut2 (r : Nat) (f : D → List D → Option (D × D)) (e0 : ER (List D)) : ER D := match e0 with
 | .stuck => .stuck
 | .ok ds σ1 => match f (σ1.getD r .non) ds with | some (c, z) => .ok z (σ1.set r c) | none => .stuck
 | .exc c p σ1 => .exc c p σ1
theorem mut2_x {r : Nat} {f : D → List D → Option (D × D)} {c : Str} {p : D} : mut2 r f (.exc c p σ) = .exc c p σ := (rfl)
def mut3 (r : Nat) (σ1 : List D) (o : Option (D × D)) : ER D := match o with
 | some (c, z) => .ok z (σ1.set r c)
 | none => .stuck
theorem mut3_s {r : Nat} {c z : D} : mut3 r σ (some (c, z)) = .ok z (σ.set r c) := (rfl)
theorem mut2_o {r : Nat} {f : D → List D → Option (D × D)} {ds : List D} : mut2 r f (.ok ds σ) = mut3 r σ (f (σ.getD r .non) ds) := by
 show (match f (σ.getD r .non) ds with | some (c, z) => ER.ok z (σ.set r c) | none => .stuck) = _
 cases f (σ.getD r .non) ds <;> rfl
def list2  (e0 : ER (D)) : ER (List D) := match e0 with
 | .stuck => .stuck
 | .ok d σ1 => match d with | .lst ds => .ok ds σ1 | .fzl ds => .ok ds σ1 | _ => .stuck
 | .exc c p σ1 => .exc c p σ1
theorem list2_x  {c : Str} {p : D} : list2  (.exc c p σ) = .exc c p σ := (rfl)
theorem list2_l {ds : List D} : list2 (.ok (.lst ds) σ) = .ok ds σ := (rfl)
theorem list2_f {ds : List D} : list2 (.ok (.fzl ds) σ) = .ok ds σ := (rfl)
def gtup2  (e0 : ER (D)) : ER (List D) := match e0 with
 | .stuck => .stuck
 | .ok d σ1 => match d with | .tup ds => .ok ds σ1 | _ => .stuck
 | .exc c p σ1 => .exc c p σ1
theorem gtup2_x  {c : Str} {p : D} : gtup2  (.exc c p σ) = .exc c p σ := (rfl)
theorem gtup2_o {ds : List D} : gtup2 (.ok (.tup ds) σ) = .ok ds σ := (rfl)
def rng2  (e0 : ER (List D)) : ER (List D) := match e0 with
 | .stuck => .stuck
 | .ok ds σ1 => ofO (gRng ds) σ1
 | .exc c p σ1 => .exc c p σ1
theorem rng2_x  {c : Str} {p : D} : rng2  (.exc c p σ) = .exc c p σ := (rfl)
theorem rng2_o  {ds : List D} : rng2  (.ok ds σ) = ofO (gRng ds) σ := (rfl)
def bin2 (f : D → D → Option D) (g : List D → ER D) (e0 : ER (D)) : ER D := match e0 with
 | .stuck => .stuck
 | .ok x σ1 => bin3 f x (g σ1)
 | .exc c p σ1 => .exc c p σ1
theorem bin2_x {f : D → D → Option D} {g : List D → ER D} {c : Str} {p : D} : bin2 f g (.exc c p σ) = .exc c p σ := (rfl)
theorem bin2_o {f : D → D → Option D} {g : List D → ER D} {x : D} : bin2 f g (.ok x σ) = bin3 f x (g σ) := (rfl)
def cons2 (gs : List D → ER (List D)) (e0 : ER (D)) : ER (List D) := match e0 with
 | .stuck => .stuck
 | .ok d σ1 => cons3 d (gs σ1)
 | .exc c p σ1 => .exc c p σ1
theorem cons2_x {gs : List D → ER (List D)} {c : Str} {p : D} : cons2 gs (.exc c p σ) = .exc c p σ := (rfl)
theorem cons2_o {gs : List D → ER (List D)} {d : D} : cons2 gs (.ok d σ) = cons3 d (gs σ) := (rfl)
def setix2 (r : Nat) (gi : List D → ER D) (e0 : ER (D)) : SO := match e0 with
 | .stuck => .stuck
 | .ok v σ1 => setix3 r v (gi σ1)
 | .exc c p σ1 => .exc c p σ1
theorem setix2_x {r : Nat} {gi : List D → ER D} {c : Str} {p : D} : setix2 r gi (.exc c p σ) = .exc c p σ := (rfl)
theorem setix2_o {r : Nat} {gi : List D → ER D} {v : D} : setix2 r gi (.ok v σ) = setix3 r v (gi σ) := (rfl)
def meth2 (T : String) (f : D → List D → Option D) (gs : List D → ER (List D)) (e0 : ER (D)) : ER D := match e0 with
 | .stuck => .stuck
 | .ok d σ1 => if isTy T d = true then meth3 f d (gs σ1) else .stuck
 | .exc c p σ1 => .exc c p σ1
theorem meth2_x {T : String} {f : D → List D → Option D} {gs : List D → ER (List D)} {c : Str} {p : D} : meth2 T f gs (.exc c p σ) = .exc c p σ := (rfl)
theorem meth2_o {T : String} {f : D → List D → Option D} {gs : List D → ER (List D)} {d : D} (h : isTy T d = true) : meth2 T f gs (.ok d σ) = meth3 f d (gs σ) := if_pos h
theorem meth2_l {f : D → List D → Option D} {gs : List D → ER (List D)} {ds : List D} : meth2 "list" f gs (.ok (.lst ds) σ) = meth3 f (.lst ds) (gs σ) := meth2_o (by rfl)
theorem a_if {t : List D → ER Bool} {A B : List D → SO} : sIf t A B σ = ifK A B (t σ) := by
 unfold sIf ifK
 cases t σ <;> rfl
theorem a_ret {g : List D → ER D} : sRet g σ = retK1 (g σ) := by
 unfold sRet sOf retK1
 cases g σ <;> rfl
theorem a_set {i : Nat} {g : List D → ER D} : sSet i g σ = setK i (g σ) := by
 unfold sSet sOf setK
 cases g σ <;> rfl
theorem a_drop {g : List D → ER D} : sDrop g σ = dropK1 (g σ) := by
 unfold sDrop sOf dropK1
 cases g σ <;> rfl
theorem a_setix {r : Nat} {gv gi : List D → ER D} : sSetIx r gv gi σ = setix2 r gi (gv σ) := by
 unfold sSetIx sOf setix2
 cases gv σ with
 | ok v σ1 =>
  show (match gi σ1 with | .stuck => SO.stuck | .ok d σ1 => _ | .exc c p σ1 => .exc c p σ1) = setix3 r v (gi σ1)
  cases gi σ1 with
  | ok i σ2 =>
   rw [setix3_o]
   dsimp only
   cases dSetIx (σ2.getD r .non) i v <;> rfl
  | _ => rfl
 | _ => rfl
theorem a_unp {T : Tg} {g : List D → ER D} : sUnp T g σ = unpK T (g σ) := by
 unfold sUnp sOf unpK
 cases g σ with
 | ok d σ1 =>
  dsimp only
  cases bindT T d σ1 <;> rfl
 | _ => rfl
theorem a_for {T : Tg} {gi : List D → ER (List D)} {G : List D → SO} : sFor T gi G σ = forK T G (gi σ) := by
 unfold sFor forK
 cases gi σ <;> rfl
theorem a_bin {f : D → D → Option D} {ga gb : List D → ER D} : eBin f ga gb σ = bin2 f gb (ga σ) := by
 unfold eBin bin2
 cases ga σ with
 | ok x σ1 =>
  show (gb σ1).bind _ = bin3 f x (gb σ1)
  unfold bin3
  cases gb σ1 <;> rfl
 | _ => rfl
theorem a_un {f : D → Option D} {ga : List D → ER D} : eUn f ga σ = un2 f (ga σ) := by
 unfold eUn un2 ER.bind
 cases ga σ <;> rfl
theorem a_cons {g : List D → ER D} {gs : List D → ER (List D)} : aCons g gs σ = cons2 gs (g σ) := by
 unfold aCons cons2
 cases g σ with
 | ok x σ1 =>
  show (gs σ1).bind _ = cons3 x (gs σ1)
  unfold cons3
  cases gs σ1 <;> rfl
 | _ => rfl
theorem a_slot {r : Nat} {gs : List D → ER (List D)} : aSlot r gs σ = slot2 r (gs σ) := by
 unfold aSlot slot2 ER.bind
 cases gs σ <;> rfl
theorem a_tup {gs : List D → ER (List D)} : eTup gs σ = tup2 (gs σ) := by
 unfold eTup tup2 ER.bind
 cases gs σ <;> rfl
theorem a_lst {gs : List D → ER (List D)} : eLst gs σ = lst2 (gs σ) := by
 unfold eLst lst2 ER.bind
 cases gs σ <;> rfl
theorem a_flat {g : List D → ER D} : eFlat g σ = flat2 (g σ) := by
 unfold eFlat flat2 ER.bind
 cases g σ <;> rfl
theorem a_flatL {g : List D → ER D} : eFlatL g σ = flatL2 (g σ) := by
 unfold eFlatL flatL2 ER.bind
 cases g σ with
 | ok d σ1 => cases d <;> rfl
 | _ => rfl
theorem a_call1 {f : List D → Option D} {gs : List D → ER (List D)} : eCall1 f gs σ = c12 f (gs σ) := by
 unfold eCall1 c12 ER.bind
 cases gs σ <;> rfl
theorem a_call {F : List D → FR} {gs : List D → ER (List D)} : eCall F rs gs σ = call2 F rs (gs σ) := by
 unfold eCall call2 ER.bind FR.er
 cases gs σ <;> rfl
theorem a_tof {g : List D → ER D} : tOf g σ = tof2 (g σ) := by
 unfold tOf tof2 ER.bind
 cases g σ <;> rfl
theorem a_tru {g : List D → ER D} : tTru g σ = tru2 (g σ) := by
 unfold tTru tru2 ER.bind
 cases g σ <;> rfl
theorem a_tnot {g : List D → ER Bool} : tNotD g σ = tnot2 (g σ) := by
 unfold tNotD tnot2 ER.bind
 cases g σ <;> rfl
theorem a_tand {g h : List D → ER Bool} : tAndD g h σ = tand2 h (g σ) := by
 unfold tAndD tand2 ER.bind
 cases g σ <;> rfl
theorem a_tor {g h : List D → ER Bool} : tOrD g h σ = tor2 h (g σ) := by
 unfold tOrD tor2 ER.bind
 cases g σ <;> rfl
theorem a_and {g h : List D → ER D} : eAnd g h σ = and2 h (g σ) := by
 unfold eAnd and2 ER.bind
 cases g σ <;> rfl
theorem a_or {g h : List D → ER D} : eOr g h σ = or2 h (g σ) := by
 unfold eOr or2 ER.bind
 cases g σ <;> rfl
theorem a_eif {t : List D → ER Bool} {g h : List D → ER D} : eIf t g h σ = eif2 g h (t σ) := by
 unfold eIf eif2 ER.bind
 cases t σ <;> rfl
theorem a_isx {hit : Str → Option Bool} {g : List D → ER D} : eIsX hit g σ = isx2 hit (g σ) := by
 unfold eIsX isx2 ER.bind
 cases g σ <;> rfl
theorem a_meth {T : String} {f : D → List D → Option D} {g : List D → ER D} {gs : List D → ER (List D)} : eMeth T f g gs σ = meth2 T f gs (g σ) := by
 unfold eMeth meth2
 cases g σ with
 | ok x σ1 =>
  show (if isTy T x = true then (gs σ1).bind _ else _) = if isTy T x = true then meth3 f x (gs σ1) else _
  unfold meth3
  cases gs σ1 <;> rfl
 | _ => rfl
theorem a_grange {gs : List D → ER (List D)} : gRange gs σ = rng2 (gs σ) := by
 unfold gRange rng2 ER.bind
 cases gs σ <;> rfl
theorem a_glist {g : List D → ER D} : gList g σ = list2 (g σ) := by
 unfold gList list2 ER.bind
 cases g σ <;> rfl
theorem a_gtup {g : List D → ER D} : gTupl g σ = gtup2 (g σ) := by
 unfold gTupl gtup2 ER.bind
 cases g σ <;> rfl
theorem a_par {i j : Nat} {gs : List D → ER (List D)} : sPar i j gs σ = parK1 i j (gs σ) := by
 unfold sPar parK1
 cases gs σ with
 | ok ds σ1 => cases ds with
  | nil => rfl
  | cons x ds => cases ds with
   | nil => rfl
   | cons y ds => cases ds <;> rfl
 | _ => rfl
def mut1 (b : Bool) (r : Nat) (f : D → List D → Option (D × D)) (x : ER (List D)) : ER D := if b = true then mut2 r f x else .stuck
theorem mut1_t {r : Nat} {f : D → List D → Option (D × D)} {x : ER (List D)} : mut1 true r f x = mut2 r f x := (rfl)
theorem a_mut {T : String} {r : Nat} {f : D → List D → Option (D × D)} {gs : List D → ER (List D)} : eMut T r f gs σ = mut1 (isTy T (σ.getD r .non)) r f (gs σ) := by
 unfold eMut mut1 mut2
 cases gs σ <;> rfl
theorem isTy_ll {ds : List D} : isTy "list" (.lst ds) = true := (rfl)
def SO.hdl (r : SO) (hit : Str → Option Bool) (i : Nat) (Gs : List D → SO) : SO := match r with
 | .exc c p σ1 => (match hit c with
  | none => .stuck
  | some true => (Gs (σ1.set i (.exn c p))).noExc
  | some false => .exc c p σ1)
 | r => r
theorem a_try {G : List D → SO} {hit : Str → Option Bool} {i : Nat} {Gs : List D → SO} : sTry G hit i Gs σ = (G σ).hdl hit i Gs := by unfold sTry SO.hdl; cases G σ <;> rfl
theorem hdl_nxt {hit : Str → Option Bool} {i : Nat} {Gs : List D → SO} : (SO.nxt σ).hdl hit i Gs = .nxt σ := (rfl)
theorem hdl_ret {d : D} {hit : Str → Option Bool} {i : Nat} {Gs : List D → SO} : (SO.ret d σ).hdl hit i Gs = .ret d σ := (rfl)
theorem hdl_hit {c : Str} {p : D} {hit : Str → Option Bool} {i : Nat} {Gs : List D → SO} (h : hit c = some true) : (SO.exc c p σ).hdl hit i Gs = (Gs (σ.set i (.exn c p))).noExc := by unfold SO.hdl; dsimp only; rw [h]
theorem noExc_ret {d : D} : (SO.ret d σ).noExc = .ret d σ := (rfl)
theorem noExc_nxt : (SO.nxt σ).noExc = .nxt σ := (rfl)
-- operators
theorem add_ii {i j : Int} : dAdd (.int i) (.int j) = some (.int (i + j)) := (rfl)
theorem sub_ii {i j : Int} : dSub (.int i) (.int j) = some (.int (i - j)) := (rfl)
theorem mul_ii {i j : Int} (h : mulOk i j = true) : dMul (.int i) (.int j) = some (.int (i * j)) := if_pos h
theorem lt_ii {i j : Int} : dLt (.int i) (.int j) = some (.bl (decide (i < j))) := (rfl)
theorem le_ii {i j : Int} : dLe (.int i) (.int j) = some (.bl (decide (i ≤ j))) := (rfl)
theorem gt_ii {i j : Int} : dGt (.int i) (.int j) = some (.bl (decide (j < i))) := (rfl)
theorem ge_ii {i j : Int} : dGe (.int i) (.int j) = some (.bl (decide (j ≤ i))) := (rfl)
theorem eqv_int (a b : Int) : (D.int a).eqv (D.int b) = decide (a = b) := by
 simp [D.eqv, D.py, PyData.eqv]
 rcases Decidable.em (a = b) with h | h <;> simp [h]
theorem eq_ii {i j : Int} : dEq (.int i) (.int j) = some (.bl (decide (i = j))) := by unfold dEq; rw [if_pos ⟨rfl, rfl⟩, eqv_int]
theorem ne_ii {i j : Int} : dNe (.int i) (.int j) = some (.bl (decide (i ≠ j))) := by unfold dNe; rw [if_pos ⟨rfl, rfl⟩, eqv_int, decide_not]
theorem abs_i {i : Int} : fAbs [.int i] = some (.int (i.natAbs : Int)) := by
 show some (D.int (if i < 0 then -i else i)) = _
 congr 2
 split <;> omega
theorem int_i {i : Int} : fInt [.int i] = some (.int i) := (rfl)
theorem int_b {b : Bool} : fInt [.bl b] = some (.int (if b then 1 else 0)) := (rfl)
theorem len_t {ds : List D} : fLen [.tup ds] = some (.int ds.length) := (rfl)
theorem len_l {ds : List D} : fLen [.lst ds] = some (.int ds.length) := (rfl)
theorem len_f {ds : List D} : fLen [.fzl ds] = some (.int ds.length) := (rfl)
theorem max_ii {i j : Int} : fMax2 [.int i, .int j] = some (.int (max i j)) := by
 show some (D.int (if j > i then j else i)) = _
 congr 2
 omega
theorem min_ii {i j : Int} : fMin2 [.int i, .int j] = some (.int (min i j)) := by
 show some (D.int (if j < i then j else i)) = _
 congr 2
 omega
theorem not_b {b : Bool} : dNot (.bl b) = some (.bl (!b)) := (rfl)
theorem neg_i {i : Int} : dNeg (.int i) = some (.int (-i)) := (rfl)
theorem ix_t0 {a : D} {ds : List D} : dIx (.tup (a :: ds)) (.int 0) = some a := L2.atI_nat (j := 0) rfl
theorem ix_t1 {a b : D} {ds : List D} : dIx (.tup (a :: b :: ds)) (.int 1) = some b := by
 show L2.atI (a :: b :: ds) ((1 : Nat) : Int) = some b
 exact L2.atI_nat rfl
theorem ix_l0 {a : D} {ds : List D} : dIx (.lst (a :: ds)) (.int 0) = some a := L2.atI_nat (j := 0) rfl
theorem ix_lN {ds : List D} {n : Nat} {d : D} (h : ds[n]? = some d) : dIx (.lst ds) (.int n) = some d := L2.atI_nat h
theorem ix_tN {ds : List D} {n : Nat} {d : D} (h : ds[n]? = some d) : dIx (.tup ds) (.int n) = some d := L2.atI_nat h
theorem ix_fN {ds : List D} {n : Nat} {d : D} (h : ds[n]? = some d) : dIx (.fzl ds) (.int n) = some d := L2.atI_nat h
theorem setix_lN {ds : List D} {n : Nat} {d : D} (h : n < ds.length) : dSetIx (.lst ds) (.int n) d = some (.lst (ds.set n d)) := by
 have : ixN ds.length n = some n := by
  unfold ixN
  rw [if_pos (by omega)]
  simp; omega
 show (ixN ds.length (n : Int)).map _ = _
 rw [this]; rfl
end
theorem forL_inv {T : Tg} {G : List D → SO} : ∀ (ds : List D) (I : Nat → List D → Prop) (σ : List D), I 0 σ →
 (∀ (i : Nat) d σ, ds[i]? = some d → I i σ → ∃ σ1 σ2, bindT T d σ = some σ1 ∧ (G σ1 = .nxt σ2 ∨ G σ1 = .cnt σ2) ∧ I (i + 1) σ2) → ∃ σ', forL T G ds σ = .nxt σ' ∧ I ds.length σ'
 | [], I, σ, h0, _ => ⟨σ, rfl, h0⟩
 | d :: ds, I, σ, h0, hs => by
  obtain ⟨σ1, σ2, e1, e2, h1⟩ := hs 0 d σ rfl h0
  obtain ⟨σ', e3, h3⟩ := forL_inv ds (fun i => I (i + 1)) σ2 h1 fun i d σ hd hI => hs (i + 1) d σ (by simpa using hd) hI
  refine ⟨σ', ?_, h3⟩
  rw [forL, e1]
  dsimp only
  rcases e2 with e2 | e2 <;> rw [e2] <;> exact e3
theorem rngD_len {lo : Int} {n : Nat} : (rngD lo n).length = n := by simp [rngD]
theorem rngD_at {lo : Int} {n i : Nat} {d : D} (h : (rngD lo n)[i]? = some d) : i < n ∧ d = .int (lo + i) := by
 have hl := (List.getElem?_eq_some_iff.mp h).1
 rw [rngD_len] at hl
 refine ⟨hl, ?_⟩
 unfold rngD at h
 rw [List.getElem?_map, List.getElem?_range hl] at h
 cases h
 rfl
theorem rngL1 {j : Int} (h : j < 2 ^ 62) (h0 : -(2 ^ 62) ≤ j) : gRng [.int j] = some (rngD 0 j.toNat) := if_pos ⟨h0, h⟩
theorem rngL2 {i j : Int} (h0 : -(2 ^ 62) ≤ i) (h : i < 2 ^ 62) (h2 : -(2 ^ 62) ≤ j) (h3 : j < 2 ^ 62) : gRng [.int i, .int j] = some (rngD i (j - i).toNat) := if_pos ⟨h0, h, h2, h3⟩
theorem mulOk_l {i j : Int} (h : -(2 ^ 64) < i) (h2 : i < 2 ^ 64) : mulOk i j = true := by
 unfold mulOk
 rw [decide_eq_true (⟨h, h2⟩ : -(2 ^ 64) < i ∧ i < 2 ^ 64)]
 rfl
theorem mulOk_r {i j : Int} (h : -(2 ^ 64) < j) (h2 : j < 2 ^ 64) : mulOk i j = true := by
 unfold mulOk
 rw [decide_eq_true (⟨h, h2⟩ : -(2 ^ 64) < j ∧ j < 2 ^ 64), Bool.or_true]
 rfl
end Ow
namespace Ow
open PySem PySem.Spec PySem.SeqAt PyProof.Rows L2
def enc (r : Rat) : D := .tup [.int r.num, .int r.den]
theorem gcd_pos {a b : Int} (hb : b ≠ 0) : 0 < Int.gcd a b := Nat.pos_of_ne_zero fun h => hb (Int.gcd_eq_zero_iff.mp h).2
theorem divOk_lt {g : Int} (h0 : g ≠ 0) (h : g.natAbs < 2 ^ 9000) : divOk g = true := by
 unfold divOk
 rw [Bool.and_eq_true]
 refine ⟨decide_eq_true h0, decide_eq_true ?_⟩
 exact (Nat.log2_lt (by omega)).mpr h
theorem num_den (a b : Int) (hb : 0 < b) : (Rat.divInt a b).num = a / (Int.gcd a b : Nat) ∧ ((Rat.divInt a b).den : Int) = b / (Int.gcd a b : Nat) := by
 obtain ⟨n, rfl⟩ : ∃ n : Nat, b = n := ⟨b.toNat, by omega⟩
 have hn : n ≠ 0 := by omega
 have e : Rat.divInt a n = mkRat a n := rfl
 rw [e, mkRat, dif_neg hn, Rat.normalize_eq]
 constructor
 · rfl
 · show ((n / a.natAbs.gcd n : Nat) : Int) = _
   rw [Int.natCast_ediv]
   rfl
def sz (n : Nat) (r : Rat) : Prop := r.num.natAbs < 2 ^ n ∧ r.den < 2 ^ n
theorem sz.mono {n m : Nat} {r : Rat} (h : sz n r) (hm : n ≤ m) : sz m r := ⟨Nat.lt_of_lt_of_le h.1 (Nat.pow_le_pow_right (by omega) hm), Nat.lt_of_lt_of_le h.2 (Nat.pow_le_pow_right (by omega) hm)⟩
theorem pow_mul_lt {a b n m : Nat} (ha : a < 2 ^ n) (hb : b < 2 ^ m) : a * b < 2 ^ (n + m) := by
 rw [Nat.pow_add]
 exact Nat.mul_lt_mul'' ha hb
theorem den_le' (a b : Int) (hb : 0 < b) : (Rat.divInt a b).den ≤ b.natAbs ∧ (Rat.divInt a b).num.natAbs ≤ a.natAbs := by
 obtain ⟨h1, h2⟩ := num_den a b hb
 have hg : 0 < Int.gcd a b := gcd_pos (by omega)
 constructor
 · have : b / ((Int.gcd a b : Nat) : Int) ≤ b := Int.ediv_le_self _ (by omega)
   omega
 · rw [h1, Int.natAbs_ediv_of_dvd (Int.gcd_dvd_left ..)]
   exact Nat.div_le_self _ _
theorem sz_divInt {a b : Int} {n : Nat} (hb : 0 < b) (h1 : a.natAbs < 2 ^ n) (h2 : b.natAbs < 2 ^ n) : sz n (Rat.divInt a b) := by
 obtain ⟨q1, q2⟩ := den_le' a b hb
 exact ⟨Nat.lt_of_le_of_lt q2 h1, Nat.lt_of_le_of_lt q1 h2⟩
theorem den_pos' (r : Rat) : (0 : Int) < r.den := by have := r.den_pos; omega
theorem den_ne (r : Rat) : (r.den : Int) ≠ 0 := by have := r.den_pos; omega
theorem sub_eq (r q : Rat) : Rat.divInt (r.num * q.den - q.num * r.den) (r.den * q.den) = r - q := by
 rw [← Rat.divInt_sub_divInt _ _ (den_ne r) (den_ne q), Rat.num_divInt_den, Rat.num_divInt_den]
theorem cross_lt {r q : Rat} {a b : Nat} (hr : sz a r) (hq : sz b q) : (r.num * q.den).natAbs < 2 ^ (a + b) ∧ (r.num * q.num).natAbs < 2 ^ (a + b) ∧ ((r.den : Int) * q.den).natAbs < 2 ^ (a + b) ∧ ((r.den : Int) * q.num).natAbs < 2 ^ (a + b) := by
 refine ⟨?_, ?_, ?_, ?_⟩ <;> rw [Int.natAbs_mul]
 · exact pow_mul_lt hr.1 (by rw [Int.natAbs_natCast]; exact hq.2)
 · exact pow_mul_lt hr.1 hq.1
 · exact pow_mul_lt (by rw [Int.natAbs_natCast]; exact hr.2) (by rw [Int.natAbs_natCast]; exact hq.2)
 · exact pow_mul_lt (by rw [Int.natAbs_natCast]; exact hr.2) hq.1
theorem natAbs_sub_lt {x y : Int} {n : Nat} (hx : x.natAbs < 2 ^ n) (hy : y.natAbs < 2 ^ n) : (x - y).natAbs < 2 ^ (n + 1) := by
 have := Int.natAbs_sub_le x y
 rw [Nat.pow_succ]; omega
theorem sz_sub {r q : Rat} {a b : Nat} (hr : sz a r) (hq : sz b q) : sz (a + b + 1) (r - q) := by
 rw [← sub_eq]
 obtain ⟨h1, h2, h3, h4⟩ := cross_lt hr hq
 obtain ⟨g1, g2, g3, g4⟩ := cross_lt hq hr
 refine sz_divInt (Int.mul_pos (den_pos' r) (den_pos' q)) (natAbs_sub_lt h1 (by rw [Nat.add_comm a b]; exact g1)) (Nat.lt_of_lt_of_le h3 (Nat.pow_le_pow_right (by omega) (by omega)))
theorem mod_ii {i j : Int} (h : 0 < j) : dMod (.int i) (.int j) = some (.int (i % j)) := by
 unfold dMod
 dsimp only
 rw [if_pos (by omega), Int.fmod_eq_emod_of_nonneg _ (by omega)]
theorem div_ii {i j : Int} (h : 0 < j) (h2 : j.natAbs < 2 ^ 9000) : dDiv (.int i) (.int j) = some (.int (i / j)) := by
 unfold dDiv
 dsimp only
 rw [if_pos (divOk_lt (by omega) h2), Int.fdiv_eq_ediv_of_nonneg _ (by omega)]
theorem emod_lt' (a : Int) {b : Int} (h : 0 < b) : 0 ≤ a % b ∧ a % b < b := ⟨Int.emod_nonneg _ (by omega), Int.emod_lt_of_pos _ h⟩
theorem lt64_9000 {n : Nat} (h : n < 2 ^ 64) : n < 2 ^ 9000 := Nat.lt_of_lt_of_le h (Nat.pow_le_pow_right (by omega) (by omega))
theorem pow_18 : (10 : Int) ^ (18 : Int).toNat = 1000000000000000000 := by decide +kernel
theorem dPow_18 : dPow (.int 10) (.int 18) = some (.int 1000000000000000000) := by
 have h : powOk 10 18 = true := by decide +kernel
 unfold dPow
 dsimp only
 rw [if_pos h, pow_18]
theorem pow_3 {i : Int} (h : i.natAbs < 2 ^ 64) : dPow (.int i) (.int 3) = some (.int (i ^ 3)) := by
 have h : powOk i 3 = true := by
  unfold powOk
  simp
  omega
 unfold dPow
 dsimp only
 rw [if_pos h]
 rfl
def Bag (k : Int) (d : D) : Prop := ∃ B S T : Int, d = .lst [.int B, .int S, .int T] ∧ 0 ≤ B ∧ 0 ≤ S ∧ S < 2 ^ 32 ∧ 0 ≤ T ∧ T ≤ k
theorem Bag.mono {j k : Int} {d : D} (h : Bag j d) (hk : j ≤ k) : Bag k d := by
 obtain ⟨B, S, T, e, h1, h2, h3, h4, h5⟩ := h
 exact ⟨B, S, T, e, h1, h2, h3, h4, by omega⟩
abbrev primesD : List D := [.int 2147483647, .int 2147483629, .int 2147483587, .int 2147483579, .int 2147483563, .int 2147483549, .int 2147483543, .int 2147483497]
theorem prime_at (j : Int) (h0 : 0 ≤ j) (h8 : j < 8) : ∃ p : Int, dIx (.tup primesD) (.int j) = some (.int p) ∧ 0 < p ∧ p < 2 ^ 31 := by
 obtain ⟨k, rfl⟩ : ∃ k : Nat, j = k := ⟨j.toNat, by omega⟩
 have : k < 8 := by omega
 match k, this with
 | 0, _ => exact ⟨_, ix_tN rfl, by decide, by decide⟩
 | 1, _ => exact ⟨_, ix_tN rfl, by decide, by decide⟩
 | 2, _ => exact ⟨_, ix_tN rfl, by decide, by decide⟩
 | 3, _ => exact ⟨_, ix_tN rfl, by decide, by decide⟩
 | 4, _ => exact ⟨_, ix_tN rfl, by decide, by decide⟩
 | 5, _ => exact ⟨_, ix_tN rfl, by decide, by decide⟩
 | 6, _ => exact ⟨_, ix_tN rfl, by decide, by decide⟩
 | 7, _ => exact ⟨_, ix_tN rfl, by decide, by decide⟩
theorem ix3_0 {x y z : D} : dIx (.lst [x, y, z]) (.int 0) = some x := ix_l0
theorem ix3_1 {x y z : D} : dIx (.lst [x, y, z]) (.int 1) = some y := ix_lN (n := 1) rfl
theorem ix3_2 {x y z : D} : dIx (.lst [x, y, z]) (.int 2) = some z := ix_lN (n := 2) rfl
theorem six3_0 {x y z w : D} : dSetIx (.lst [x, y, z]) (.int 0) w = some (.lst [w, y, z]) := setix_lN (n := 0) (by simp)
theorem six3_2 {x y z w : D} : dSetIx (.lst [x, y, z]) (.int 2) w = some (.lst [x, y, w]) := setix_lN (n := 2) (by simp)
theorem bag_fin (cell : Int) (at_ : Int) (b : Bool) (h0 : 0 ≤ at_) (hat : at_ ≤ 100) : Bag 0 (.lst [.int ((cell.natAbs : Int) * (if b = true then 1 else 0)), .int (cell % 2147483587 + 40009 * at_), .int 0]) := by
 have h1 : 0 ≤ cell % 2147483587 := Int.emod_nonneg _ (by omega)
 have h2 : cell % 2147483587 < 2147483587 := Int.emod_lt_of_pos _ (by omega)
 have h4 : (0 : Int) ≤ (if b = true then 1 else 0) := by cases b <;> simp
 exact ⟨_, _, _, rfl, Int.mul_nonneg (by omega) h4, by omega, by omega, by omega, by omega⟩
theorem cells_rng (k : Int) (ns : List Int) (hn : ns.length ≤ 63) (hk : 0 ≤ k) (hk2 : k ≤ 100) : ∃ q : Nat, q ≤ 100 ∧ gRng [.int (max 1 (min k (List.map D.int ns).length))] = some (rngD 0 q) := by
 rw [List.length_map]
 exact ⟨(max 1 (min k ns.length)).toNat, by omega, rngL1 (by omega) (by omega)⟩
end Ow
namespace Ow
open PySem PySem.Spec PySem.SeqAt PyProof.Rows L2
section
variable {σ : List D} {T : Tg} {vr : List Nat} {gt : List D → ER Bool} {ge : List D → ER D}
theorem a_tyes : tYesD σ = .ok true σ := (rfl)
def lcF (vr : List Nat) (σ1 : List D) (r : ER (List D)) : ER D := match r with
 | .ok acc σ2 => .ok (.lst acc) (restV vr σ1 σ2)
 | _ => .stuck
def lc2 (T : Tg) (vr : List Nat) (gt : List D → ER Bool) (ge : List D → ER D) (r : ER (List D)) : ER D := match r with
 | .ok ds σ1 => if ds.length ≤ sizeLine ∧ vr.all (fun i => (σ1.getD i .non).flat) = true then lcF vr σ1 (lcL T gt ge ds [] σ1) else .stuck
 | .stuck => .stuck
 | .exc c p σ1 => .exc c p σ1
theorem a_lc {gi : List D → ER (List D)} : eLc T vr gi gt ge σ = lc2 T vr gt ge (gi σ) := by
 unfold eLc lc2 lcF
 cases gi σ <;> rfl
theorem lc2_o {ds : List D} (h : ds.length ≤ sizeLine) (h2 : vr.all (fun i => (σ.getD i .non).flat) = true) : lc2 T vr gt ge (.ok ds σ) = lcF vr σ (lcL T gt ge ds [] σ) := if_pos ⟨h, h2⟩
theorem lc2_0 {ds : List D} (h : ds.length ≤ sizeLine) : lc2 T [] gt ge (.ok ds σ) = lcF [] σ (lcL T gt ge ds [] σ) := lc2_o h rfl
theorem lcF_0 {acc σ2 : List D} : lcF [] σ (.ok acc σ2) = .ok (.lst acc) σ2 := (rfl)
theorem lc_small {ds : List D} (h : ds.length ≤ 10000) : ds.length ≤ sizeLine := by rw [sizeLine_eq]; omega
theorem lcL_map (f : D → D) (S : List D → Prop) (ds : List D) (σ : List D) (h0 : S σ) (hs : ∀ d ∈ ds, ∀ σ, S σ → ∃ σ1 σ2, bindT T d σ = some σ1 ∧ ge σ1 = .ok (f d) σ2 ∧ S σ2) : ∃ σ', lcL T tYesD ge ds [] σ = .ok (ds.map f) σ' ∧ S σ' := by
 have key : ∀ (ds acc σ : List D), S σ → (∀ d ∈ ds, ∀ σ, S σ → ∃ σ1 σ2, bindT T d σ = some σ1 ∧ ge σ1 = .ok (f d) σ2 ∧ S σ2) → ∃ σ', lcL T tYesD ge ds acc σ = .ok (acc ++ ds.map f) σ' ∧ S σ' := by
  intro ds
  induction ds with
  | nil => intro acc σ h _; exact ⟨σ, by rw [List.map_nil, List.append_nil]; rfl, h⟩
  | cons d ds ih =>
   intro acc σ h hs
   obtain ⟨σ1, σ2, e1, e2, h2⟩ := hs d List.mem_cons_self σ h
   obtain ⟨σ', e, h'⟩ := ih (acc ++ [f d]) σ2 h2 fun x hx => hs x (List.mem_cons_of_mem _ hx)
   refine ⟨σ', ?_, h'⟩
   rw [lcL, e1]
   dsimp only
   rw [a_tyes]
   dsimp only
   rw [if_pos rfl, e2]
   dsimp only
   rw [e, List.map_cons, List.append_assoc]
   rfl
 obtain ⟨σ', e, h⟩ := key ds [] σ h0 hs
 exact ⟨σ', e, h⟩
def gf2 (f : List D → Option (List D)) (r : ER (List D)) : ER (List D) := match r with
 | .ok ds σ1 => ofO (f ds) σ1
 | .stuck => .stuck
 | .exc c p σ1 => .exc c p σ1
theorem a_gfun {f : List D → Option (List D)} {gs : List D → ER (List D)} : gFun f gs σ = gf2 f (gs σ) := by
 unfold gFun gf2
 cases gs σ <;> rfl
theorem gf2_o {f : List D → Option (List D)} {ds : List D} : gf2 f (.ok ds σ) = ofO (f ds) σ := (rfl)
theorem zip_ll {a b : List D} : fZip [.lst a, .lst b] = some (zipD a b) := (rfl)
theorem zip_tt {a b : List D} : fZip [.tup a, .tup b] = some (zipD a b) := (rfl)
theorem enum_l {a : List D} : fEnum [.lst a] = some (enumD a) := (rfl)
theorem rev_l {a : List D} : fRev [.lst a] = some a.reverse := (rfl)
theorem all_bls {α : Type} (p : α → Bool) (l : List α) : fAll [.lst (l.map fun d => .bl (p d))] = some (.bl (l.all p)) := by
 have h : (l.map fun d => D.bl (p d)).all isBl = true := by rw [List.all_map]; exact List.all_eq_true.mpr fun _ _ => rfl
 show (if _ then _ else _) = _
 rw [if_pos h, List.all_map]
 rfl
theorem all_true (l : List D) : fAll [.lst (l.map fun _ => .bl true)] = some (.bl true) := by
 rw [all_bls (fun _ => true) l]
 congr 2
 exact List.all_eq_true.mpr fun _ _ => rfl
theorem listOf_l {ds : List D} : fListOf [.lst ds] = some (.lst ds) := (rfl)
theorem listOf_t {ds : List D} : fListOf [.tup ds] = some (.lst ds) := (rfl)
theorem tupOf_l {ds : List D} : fTupOf [.lst ds] = some (.tup ds) := (rfl)
theorem tupOf_t {ds : List D} : fTupOf [.tup ds] = some (.tup ds) := (rfl)
theorem append_l {ds : List D} {x : D} (h : ds.length < sizeLine) : mAppend (.lst ds) [x] = some (.lst (ds ++ [x]), .non) := if_pos h
theorem clear_l {ds : List D} : mClear (.lst ds) [] = some (.lst [], .non) := (rfl)
theorem bl_eq {a b : Bool} : dEq (.bl a) (.bl b) = some (.bl (a == b)) := by cases a <;> cases b <;> rfl
theorem bl_ne {a b : Bool} : dNe (.bl a) (.bl b) = some (.bl (a != b)) := by cases a <;> cases b <;> rfl
theorem dEq_of {x y : D} (hx : x.dat 64 = true) (hy : y.dat 64 = true) : dEq x y = some (.bl (x.eqv y)) := if_pos ⟨hx, hy⟩
-- slices
def sl4 (f : D → Option Int → Option Int → Option D) (d : D) (lo : Option Int) (r : ER (Option Int)) : ER D := match r with
 | .ok hi σ1 => ofO (f d lo hi) σ1
 | .stuck => .stuck
 | .exc c p σ1 => .exc c p σ1
def sl3 (f : D → Option Int → Option Int → Option D) (d : D) (gh : List D → ER (Option Int)) (r : ER (Option Int)) : ER D := match r with
 | .ok lo σ1 => sl4 f d lo (gh σ1)
 | .stuck => .stuck
 | .exc c p σ1 => .exc c p σ1
def sl2 (f : D → Option Int → Option Int → Option D) (go gh : List D → ER (Option Int)) (r : ER D) : ER D := match r with
 | .ok d σ1 => sl3 f d gh (go σ1)
 | .stuck => .stuck
 | .exc c p σ1 => .exc c p σ1
theorem a_sl {f : D → Option Int → Option Int → Option D} {g : List D → ER D} {go gh : List D → ER (Option Int)} : eSl f g go gh σ = sl2 f go gh (g σ) := by
 unfold eSl sl2
 cases g σ with
 | ok d σ1 =>
  show (go σ1).bind _ = sl3 f d gh (go σ1)
  unfold sl3
  cases go σ1 with
  | ok lo σ2 =>
   show (gh σ2).bind _ = sl4 f d lo (gh σ2)
   unfold sl4
   cases gh σ2 <;> rfl
  | _ => rfl
 | _ => rfl
theorem sl2_o {f : D → Option Int → Option Int → Option D} {go gh : List D → ER (Option Int)} {d : D} : sl2 f go gh (.ok d σ) = sl3 f d gh (go σ) := (rfl)
theorem sl3_o {f : D → Option Int → Option Int → Option D} {gh : List D → ER (Option Int)} {d : D} {lo : Option Int} : sl3 f d gh (.ok lo σ) = sl4 f d lo (gh σ) := (rfl)
theorem sl4_o {f : D → Option Int → Option Int → Option D} {d : D} {lo hi : Option Int} : sl4 f d lo (.ok hi σ) = ofO (f d lo hi) σ := (rfl)
def os2 (r : ER D) : ER (Option Int) := match r with
 | .ok (.int i) σ1 => .ok (some i) σ1
 | .ok _ _ => .stuck
 | .stuck => .stuck
 | .exc c p σ1 => .exc c p σ1
theorem a_onone : oNone σ = .ok none σ := (rfl)
theorem a_osome {g : List D → ER D} : oSome g σ = os2 (g σ) := by
 unfold oSome os2
 cases g σ with
 | ok d σ1 => cases d <;> rfl
 | _ => rfl
theorem os2_o {i : Int} : os2 (.ok (.int i) σ) = .ok (some i) σ := (rfl)
theorem slL_l {xs : List D} {lo hi : Option Int} : dSlL (.lst xs) lo hi = some (.lst (cutD xs lo hi)) := (rfl)
theorem slT_t {xs : List D} {lo hi : Option Int} : dSlT (.tup xs) lo hi = some (.tup (cutD xs lo hi)) := (rfl)
end
def plain : Nat → D → Prop
 | _, .non => True
 | _, .bl _ => True
 | _, .int _ => True
 | _, .str x => PyData.strOk x = true
 | n + 1, .tup ds => ds.length ≤ 10000 ∧ ∀ d ∈ ds, plain n d
 | n + 1, .lst ds => ds.length ≤ 10000 ∧ ∀ d ∈ ds, plain n d
 | _, _ => False
theorem plain.dat : ∀ {n : Nat} {d : D}, plain n d → ∀ m, n ≤ m → d.dat m = true
 | _, .non, _, m, _ => by cases m <;> rfl
 | _, .bl _, _, m, _ => by cases m <;> rfl
 | _, .int _, _, m, _ => by cases m <;> rfl
 | n, .str x, h, m, _ => by
  have h : PyData.strOk x = true := by cases n <;> exact h
  cases m <;> exact h
 | 0, .tup ds, h, m, hm => h.elim
 | 0, .lst ds, h, m, hm => h.elim
 | n + 1, .tup ds, h, m, hm => by
  obtain ⟨m, rfl⟩ : ∃ k, m = k + 1 := ⟨m - 1, by omega⟩
  exact List.all_eq_true.mpr fun d hd => plain.dat (h.2 d hd) m (by omega)
 | n + 1, .lst ds, h, m, hm => by
  obtain ⟨m, rfl⟩ : ∃ k, m = k + 1 := ⟨m - 1, by omega⟩
  exact List.all_eq_true.mpr fun d hd => plain.dat (h.2 d hd) m (by omega)
 | n, .dK _, h, _, _ => by cases n <;> exact False.elim h
 | n, .dT _, h, _, _ => by cases n <;> exact False.elim h
 | n, .ins _ _, h, _, _ => by cases n <;> exact False.elim h
 | n, .fzl _, h, _, _ => by cases n <;> exact False.elim h
 | n, .exn _ _, h, _, _ => by cases n <;> exact False.elim h
 | n, .fzd _ _, h, _, _ => by cases n <;> exact False.elim h
theorem plain.int {n : Nat} (i : Int) : plain n (.int i) := by cases n <;> trivial
theorem plain.enc (r : Rat) (n : Nat) : plain (n + 1) (enc r) := ⟨by simp, fun d hd => by
 simp only [List.mem_cons, List.not_mem_nil, or_false] at hd
 rcases hd with rfl | rfl <;> exact plain.int _⟩
theorem plain.mono : ∀ {n : Nat} {d : D}, plain n d → ∀ m, n ≤ m → plain m d
 | _, .non, _, m, _ => by cases m <;> trivial
 | _, .bl _, _, m, _ => by cases m <;> trivial
 | _, .int _, _, m, _ => by cases m <;> trivial
 | n, .str x, h, m, _ => by
  have h : PyData.strOk x = true := by cases n <;> exact h
  cases m <;> exact h
 | 0, .tup ds, h, m, hm => h.elim
 | 0, .lst ds, h, m, hm => h.elim
 | n + 1, .tup ds, h, m, hm => by
  obtain ⟨m, rfl⟩ : ∃ k, m = k + 1 := ⟨m - 1, by omega⟩
  exact ⟨h.1, fun d hd => plain.mono (h.2 d hd) m (by omega)⟩
 | n + 1, .lst ds, h, m, hm => by
  obtain ⟨m, rfl⟩ : ∃ k, m = k + 1 := ⟨m - 1, by omega⟩
  exact ⟨h.1, fun d hd => plain.mono (h.2 d hd) m (by omega)⟩
 | n, .dK _, h, _, _ => by cases n <;> exact False.elim h
 | n, .dT _, h, _, _ => by cases n <;> exact False.elim h
 | n, .ins _ _, h, _, _ => by cases n <;> exact False.elim h
 | n, .fzl _, h, _, _ => by cases n <;> exact False.elim h
 | n, .exn _ _, h, _, _ => by cases n <;> exact False.elim h
 | n, .fzd _ _, h, _, _ => by cases n <;> exact False.elim h
theorem zip_self : ∀ (ds : List D), zipD ds ds = ds.map fun d => .tup [d, d]
 | [] => rfl
 | d :: ds => by
  show D.tup [d, d] :: zipD ds ds = _
  rw [zip_self ds]; rfl
end Ow
namespace Ow
open PySem PySem.Spec PySem.SeqAt PyProof.Rows L2
section
variable {σ : List D} {T : Tg} {ge : List D → ER D} {α : Type}
theorem lcL_mapG (g h : α → D) (S : List D → Prop) (l : List α) (σ : List D) (h0 : S σ) (hs : ∀ a ∈ l, ∀ σ, S σ → ∃ σ1 σ2, bindT T (g a) σ = some σ1 ∧ ge σ1 = .ok (h a) σ2 ∧ S σ2) : ∃ σ', lcL T tYesD ge (l.map g) [] σ = .ok (l.map h) σ' ∧ S σ' := by
 have key : ∀ (l : List α) (acc σ : List D), S σ → (∀ a ∈ l, ∀ σ, S σ → ∃ σ1 σ2, bindT T (g a) σ = some σ1 ∧ ge σ1 = .ok (h a) σ2 ∧ S σ2) → ∃ σ', lcL T tYesD ge (l.map g) acc σ = .ok (acc ++ l.map h) σ' ∧ S σ' := by
  intro l
  induction l with
  | nil => intro acc σ h _; exact ⟨σ, by rw [List.map_nil, List.map_nil, List.append_nil]; rfl, h⟩
  | cons d ds ih =>
   intro acc σ hσ hs
   obtain ⟨σ1, σ2, e1, e2, h2⟩ := hs d List.mem_cons_self σ hσ
   obtain ⟨σ', e, h'⟩ := ih (acc ++ [h d]) σ2 h2 fun x hx => hs x (List.mem_cons_of_mem _ hx)
   refine ⟨σ', ?_, h'⟩
   rw [List.map_cons, lcL, e1]
   dsimp only
   rw [a_tyes]
   dsimp only
   rw [if_pos rfl, e2]
   dsimp only
   rw [e, List.map_cons, List.append_assoc]
   rfl
 obtain ⟨σ', e, h⟩ := key l [] σ h0 hs
 exact ⟨σ', e, h⟩
theorem rng0 {n : Nat} : rngD 0 n = (List.range n).map fun (i : Nat) => D.int (i : Int) := by
 unfold rngD
 congr 1
 funext i
 rw [Int.zero_add]
def encS (xs : List Rat) : D := .lst (xs.map enc)
def szS (n : Nat) (xs : List Rat) : Prop := ∀ x ∈ xs, sz n x
theorem szS.get {n : Nat} {xs : List Rat} (h : szS n xs) (hn : 0 < n) (i : Nat) : sz n (xs.getD i 0) := by
 rw [List.getD_eq_getElem?_getD]
 cases e : xs[i]? with
 | none => exact ⟨Nat.pow_pos (by omega), Nat.one_lt_two_pow (by omega)⟩
 | some x => exact h x (List.mem_of_getElem? e)
theorem plain.encS (xs : List Rat) (h : xs.length ≤ 10000) (n : Nat) : plain (n + 2) (encS xs) := ⟨by rw [List.length_map]; exact h, fun d hd => by
 obtain ⟨x, _, rfl⟩ := List.mem_map.mp hd
 exact plain.enc x n⟩
theorem plain.eqv {n : Nat} {d : D} (h : plain n d) (hn : n ≤ 64) : d.eqv d = true := PySem.SeqAt.eqv_refl _ (D.dat_lay 64 d (h.dat 64 hn)).1
theorem dEq_self {n : Nat} {d : D} (h : plain n d) (hn : n ≤ 64) : dEq d d = some (.bl true) := by rw [dEq_of (h.dat 64 hn) (h.dat 64 hn), h.eqv hn]
def pT (xs ys : List Rat) (n : Nat) : Nat → Rat
 | 0 => 0
 | j + 1 => pT xs ys n j + xs.getD j 0 * ys.getD (n - j) 0
theorem forL_rng {T : Tg} {G : List D → SO} (n : Nat) (I : Nat → List D → Prop) (σ : List D) (h0 : I 0 σ) (hs : ∀ (i : Nat) σ, i < n → I i σ → ∃ σ1 σ2, bindT T (.int i) σ = some σ1 ∧ G σ1 = .nxt σ2 ∧ I (i + 1) σ2) : ∃ σ', forL T G (rngD 0 n) σ = .nxt σ' ∧ I n σ' := by
 obtain ⟨σ', e, h⟩ := forL_inv (rngD 0 n) I σ h0 fun i d σ hd hI => by
  obtain ⟨hi, rfl⟩ := rngD_at hd
  rw [Int.zero_add]
  obtain ⟨σ1, σ2, e1, e2, h2⟩ := hs i σ hi hI
  exact ⟨σ1, σ2, e1, .inl e2, h2⟩
 rw [rngD_len] at h
 exact ⟨σ', e, h⟩
theorem rngN (n : Nat) (h : n < 2 ^ 40) : gRng [.int (n : Int)] = some (rngD 0 n) := by
 rw [rngL1 (by omega) (by omega)]
 rfl
end
end Ow
namespace Ow
open PySem PySem.Spec PySem.SeqAt PyProof.Rows L2
def sumF (f : Nat → Rat) : Nat → Rat
 | 0 => 0
 | n + 1 => sumF f n + f n
theorem sumF_congr {f g : Nat → Rat} : ∀ {n : Nat}, (∀ i, i < n → f i = g i) → sumF f n = sumF g n
 | 0, _ => rfl
 | n + 1, h => by
  show sumF f n + f n = sumF g n + g n
  rw [sumF_congr fun i hi => h i (by omega), h n (by omega)]
theorem sumF_add (f g : Nat → Rat) : ∀ n, sumF (fun i => f i + g i) n = sumF f n + sumF g n
 | 0 => by simp [sumF]; grind
 | n + 1 => by
  show sumF _ n + (f n + g n) = (sumF f n + f n) + (sumF g n + g n)
  rw [sumF_add f g n]; grind
theorem sumF_sub (f g : Nat → Rat) : ∀ n, sumF (fun i => f i - g i) n = sumF f n - sumF g n
 | 0 => by simp [sumF]; grind
 | n + 1 => by
  show sumF _ n + (f n - g n) = (sumF f n + f n) - (sumF g n + g n)
  rw [sumF_sub f g n]; grind
theorem sumF_mul (c : Rat) (f : Nat → Rat) : ∀ n, sumF (fun i => c * f i) n = c * sumF f n
 | 0 => by simp [sumF]
 | n + 1 => by
  show sumF _ n + c * f n = c * (sumF f n + f n)
  rw [sumF_mul c f n]; grind
theorem sumF_zero : ∀ n, sumF (fun _ => 0) n = 0
 | 0 => rfl
 | n + 1 => by
  show sumF _ n + 0 = 0
  rw [sumF_zero n]; grind
theorem sumF_first (f : Nat → Rat) : ∀ n, sumF f (n + 1) = f 0 + sumF (fun i => f (i + 1)) n
 | 0 => by show (0 : Rat) + f 0 = f 0 + 0; grind
 | n + 1 => by
  show sumF f (n + 1) + f (n + 1) = f 0 + (sumF (fun i => f (i + 1)) n + f (n + 1))
  rw [sumF_first f n]; grind
theorem sumF_swap (f : Nat → Nat → Rat) (m : Nat) : ∀ n, sumF (fun i => sumF (fun j => f i j) m) n = sumF (fun j => sumF (fun i => f i j) n) m
 | 0 => by
  show (0 : Rat) = _
  rw [show (fun j => sumF (fun i => f i j) 0) = fun _ => (0 : Rat) from rfl, sumF_zero]
 | n + 1 => by
  show sumF _ n + sumF (fun j => f n j) m = _
  rw [sumF_swap f m n, ← sumF_add]
  rfl
theorem pT_sum (xs ys : List Rat) (n : Nat) : ∀ j, pT xs ys n j = sumF (fun i => xs.getD i 0 * ys.getD (n - i) 0) j
 | 0 => rfl
 | j + 1 => by
  show pT xs ys n j + _ = sumF _ j + _
  rw [pT_sum xs ys n j]
theorem cast_ne {k : Nat} (hk : k ≠ 0) : ((k : Int) : Rat) ≠ 0 := fun h => hk (by
 have : (k : Int) = 0 := Rat.intCast_inj.mp (by rw [h]; rfl)
 omega)
end Ow
namespace Ow
open PySem PySem.Spec PySem.SeqAt PyProof.Rows L2
def fb (d M : Nat) (r : Rat) : Prop := 0 < d ∧ ∃ z : Int, r * ((d : Int) : Rat) = (z : Rat) ∧ z.natAbs ≤ M
theorem cast_pos_ne {d : Nat} (h : 0 < d) : ((d : Int) : Rat) ≠ 0 := cast_ne (by omega)
theorem cast_mul (a b : Nat) : (((a * b : Nat) : Int) : Rat) = ((a : Int) : Rat) * ((b : Int) : Rat) := by rw [Int.natCast_mul, Rat.intCast_mul]
theorem fb.sz {d M n : Nat} {r : Rat} (h : fb d M r) (hd : d < 2 ^ n) (hM : M < 2 ^ n) : sz n r := by
 obtain ⟨h0, z, e, hz⟩ := h
 have : r = Rat.divInt z d := by
  rw [Rat.divInt_eq_div, ← e]
  have := cast_pos_ne h0
  grind
 rw [this]
 exact sz_divInt (by omega) (by omega) (by omega)
theorem fb.add {d M N : Nat} {r q : Rat} (h : fb d M r) (h2 : fb d N q) : fb d (M + N) (r + q) := by
 obtain ⟨h0, z, e, hz⟩ := h
 obtain ⟨_, w, e2, hw⟩ := h2
 refine ⟨h0, z + w, by rw [Rat.intCast_add, ← e, ← e2]; grind, ?_⟩
 have := Int.natAbs_add_le z w
 omega
theorem fb.mul {d e M N : Nat} {r q : Rat} (h : fb d M r) (h2 : fb e N q) : fb (d * e) (M * N) (r * q) := by
 obtain ⟨h0, z, e1, hz⟩ := h
 obtain ⟨h1, w, e2, hw⟩ := h2
 refine ⟨Nat.mul_pos h0 h1, z * w, by rw [Rat.intCast_mul, cast_mul, ← e1, ← e2]; grind, ?_⟩
 rw [Int.natAbs_mul]
 exact Nat.mul_le_mul hz hw
theorem fb.lift {d M : Nat} (e : Nat) {r : Rat} (h : fb d M r) (he : 0 < e) : fb (d * e) (M * e) r := by
 obtain ⟨h0, z, e1, hz⟩ := h
 refine ⟨Nat.mul_pos h0 he, z * e, by rw [Rat.intCast_mul, cast_mul, ← e1]; grind, ?_⟩
 rw [Int.natAbs_mul, Int.natAbs_natCast]
 exact Nat.mul_le_mul_right _ hz
theorem fb.mono {d M N : Nat} {r : Rat} (h : fb d M r) (hM : M ≤ N) : fb d N r := by
 obtain ⟨h0, z, e, hz⟩ := h
 exact ⟨h0, z, e, Nat.le_trans hz hM⟩
theorem fb.zero {d : Nat} (h : 0 < d) : fb d 0 0 := ⟨h, 0, by grind, by simp⟩
theorem fb.of_int (z : Int) {M : Nat} (h : z.natAbs ≤ M) : fb 1 M (z : Rat) := ⟨by omega, z, by rw [show (((1 : Nat) : Int) : Rat) = 1 from rfl]; grind, h⟩
theorem fb.divInt {a b d M : Nat} {z : Int} (hb : 0 < b) (hd : b * a = d) (hd0 : 0 < d) (h : z.natAbs * a ≤ M) : fb d M (Rat.divInt z b) := by
 refine ⟨hd0, z * a, ?_, by rw [Int.natAbs_mul, Int.natAbs_natCast]; exact h⟩
 rw [Rat.divInt_eq_div, ← hd, cast_mul, Rat.intCast_mul]
 have := cast_pos_ne hb
 grind
theorem fb.sum {d M : Nat} {f : Nat → Rat} (hd : 0 < d) : ∀ n, (∀ i, i < n → fb d M (f i)) → fb d (n * M) (sumF f n)
 | 0, _ => by rw [Nat.zero_mul]; exact fb.zero hd
 | n + 1, h => by
  rw [Nat.succ_mul]
  exact (fb.sum hd n fun i hi => h i (by omega)).add (h n (by omega))
def fbS (d M : Nat) (xs : List Rat) : Prop := ∀ x ∈ xs, fb d M x
theorem fbS.get {d M : Nat} {xs : List Rat} (h : fbS d M xs) (hd : 0 < d) (i : Nat) : fb d M (xs.getD i 0) := by
 rw [List.getD_eq_getElem?_getD]
 cases e : xs[i]? with
 | none => exact (fb.zero hd).mono (Nat.zero_le _)
 | some x => exact h x (List.mem_of_getElem? e)
theorem fbS.szS {d M n : Nat} {xs : List Rat} (h : fbS d M xs) (hd : d < 2 ^ n) (hM : M < 2 ^ n) : szS n xs := fun x hx => (h x hx).sz hd hM
def cf (xs : List Rat) (i : Nat) : Rat := xs.getD i 0
def cv (f g : Nat → Rat) (n : Nat) : Rat := sumF (fun i => f i * g (n - i)) (n + 1)
def pw (y : Nat → Rat) : Nat → Nat → Rat
 | 0, n => if n = 0 then 1 else 0
 | k + 1, n => cv (pw y k) y n
def tl (f : Nat → Rat) (m : Nat) : List Rat := (List.range m).map f
theorem tl_get {f : Nat → Rat} {m i : Nat} (h : i < m) : (tl f m).getD i 0 = f i := by
 unfold tl
 rw [List.getD_eq_getElem?_getD, List.getElem?_map, List.getElem?_range h]
 rfl
end Ow
namespace Ow
open PySem PySem.Spec PySem.SeqAt PyProof.Rows L2
section
variable {σ : List D}
theorem a_dnew : eDNew σ = .ok (.dK []) σ := (rfl)
def setd4 (r : Nat) (σ1 : List D) (o : Option D) : SO := match o with
 | some c => .nxt (σ1.set r c)
 | none => .stuck
def setd3 (r : Nat) (v : D) (e0 : ER D) : SO := match e0 with
 | .stuck => .stuck
 | .ok i σ1 => setd4 r σ1 (dPutD (σ1.getD r .non) i v)
 | .exc c p σ1 => .exc c p σ1
def setd2 (r : Nat) (gi : List D → ER D) (e0 : ER D) : SO := match e0 with
 | .stuck => .stuck
 | .ok v σ1 => setd3 r v (gi σ1)
 | .exc c p σ1 => .exc c p σ1
theorem a_setd {r : Nat} {gv gi : List D → ER D} : sSetD r gv gi σ = setd2 r gi (gv σ) := by
 unfold sSetD sOf setd2
 cases gv σ with
 | ok v σ1 =>
  dsimp only
  unfold setd3
  cases gi σ1 with
  | ok i σ2 => dsimp only; unfold setd4; cases dPutD (σ2.getD r .non) i v <;> rfl
  | _ => rfl
 | _ => rfl
theorem setd2_o {r : Nat} {gi : List D → ER D} {v : D} : setd2 r gi (.ok v σ) = setd3 r v (gi σ) := (rfl)
theorem setd3_o {r : Nat} {i v : D} : setd3 r v (.ok i σ) = setd4 r σ (dPutD (σ.getD r .non) i v) := (rfl)
theorem setd4_s {r : Nat} {c : D} : setd4 r σ (some c) = .nxt (σ.set r c) := (rfl)
def unpl2 (is : List Nat) (e0 : ER D) : SO := match e0 with
 | .stuck => .stuck
 | .ok (.lst ds) σ1 => soO (setMany is ds σ1)
 | .ok _ _ => .stuck
 | .exc c p σ1 => .exc c p σ1
theorem a_unpl {is : List Nat} {g : List D → ER D} : sUnpL is g σ = unpl2 is (g σ) := by
 unfold sUnpL sOf unpl2
 cases g σ with
 | ok d σ1 => cases d <;> first | rfl | (dsimp only; unfold soO; cases setMany is _ σ1 <;> rfl)
 | _ => rfl
theorem unpl2_l {is : List Nat} {ds : List D} : unpl2 is (.ok (.lst ds) σ) = soO (setMany is ds σ) := (rfl)
theorem setMany_c {i : Nat} {is : List Nat} {d : D} {ds : List D} : setMany (i :: is) (d :: ds) σ = setMany is ds (σ.set i d) := (rfl)
theorem setMany_n : setMany [] [] σ = some σ := (rfl)
def chn4 (f' : D → D → Option D) (y : D) (gc : List D → ER D) (σ : List D) (o : Option D) : ER D := match o with
 | some (.bl true) => bin3 f' y (gc σ)
 | some (.bl false) => .ok (.bl false) σ
 | _ => .stuck
def chn3 (f f' : D → D → Option D) (x : D) (gc : List D → ER D) (e0 : ER D) : ER D := match e0 with
 | .stuck => .stuck
 | .ok y σ1 => chn4 f' y gc σ1 (f x y)
 | .exc c p σ1 => .exc c p σ1
def chn2 (f f' : D → D → Option D) (gb gc : List D → ER D) (e0 : ER D) : ER D := match e0 with
 | .stuck => .stuck
 | .ok x σ1 => chn3 f f' x gc (gb σ1)
 | .exc c p σ1 => .exc c p σ1
theorem a_chain {f f' : D → D → Option D} {ga gb gc : List D → ER D} : eChain f f' ga gb gc σ = chn2 f f' gb gc (ga σ) := by
 unfold eChain chn2 ER.bind
 cases ga σ with
 | ok x σ1 =>
  dsimp only
  unfold chn3
  cases gb σ1 with
  | ok y σ2 =>
   dsimp only
   unfold chn4
   generalize f x y = o
   cases o with
   | none => rfl
   | some d =>
    cases d with
    | bl b =>
     cases b with
     | true =>
      dsimp only
      unfold bin3
      cases gc σ2 <;> rfl
     | false => rfl
    | _ => rfl
  | _ => rfl
 | _ => rfl
theorem chn2_o {f f' : D → D → Option D} {x : D} {gb gc : List D → ER D} : chn2 f f' gb gc (.ok x σ) = chn3 f f' x gc (gb σ) := (rfl)
theorem chn3_o {f f' : D → D → Option D} {x y : D} {gc : List D → ER D} : chn3 f f' x gc (.ok y σ) = chn4 f' y gc σ (f x y) := (rfl)
theorem chn4_t {f' : D → D → Option D} {y : D} {gc : List D → ER D} : chn4 f' y gc σ (some (.bl true)) = bin3 f' y (gc σ) := (rfl)
theorem chn4_f {f' : D → D → Option D} {y : D} {gc : List D → ER D} : chn4 f' y gc σ (some (.bl false)) = .ok (.bl false) σ := (rfl)
end
inductive MRow where
 | source (s : Rat)
 | gear (s r : Rat) (k : Nat)
 | adder (s : Rat) (a b : Nat)
 | disc (s : Rat) (w k : Nat)
def MRow.name : MRow → Str
 | .source _ => "source"
 | .gear _ _ _ => "gear"
 | .adder _ _ _ => "adder"
 | .disc _ _ _ => "disc"
def encR : MRow → D
 | .source s => .tup [.str "source", enc s]
 | .gear s r k => .tup [.str "gear", enc s, enc r, .int k]
 | .adder s a b => .tup [.str "adder", enc s, .int a, .int b]
 | .disc s w k => .tup [.str "disc", enc s, .int w, .int k]
def MRow.drv : MRow → List Nat
 | .source _ => []
 | .gear _ _ k => [k]
 | .adder _ a b => [a, b]
 | .disc _ _ k => [k]
def MRow.nums : MRow → List Rat
 | .source s => [s]
 | .gear s r _ => [s, r]
 | .adder s _ _ => [s]
 | .disc s _ _ => [s]
def MRow.isSrc : MRow → Bool
 | .source _ => true
 | _ => false
def MRow.isDisc : MRow → Bool
 | .disc _ _ _ => true
 | _ => false
def MRow.last : MRow → Nat
 | .source _ => 0
 | .gear _ _ k => k
 | .adder _ _ b => b
 | .disc _ _ k => k
instance : Inhabited MRow := ⟨.source 0⟩
theorem name_ok (r : MRow) : PyData.strOk r.name = true := by
 have h1 : PyData.strOk "source" = true := by decide +kernel
 have h2 : PyData.strOk "gear" = true := by decide +kernel
 have h3 : PyData.strOk "adder" = true := by decide +kernel
 have h4 : PyData.strOk "disc" = true := by decide +kernel
 cases r
 · exact h1
 · exact h2
 · exact h3
 · exact h4
structure Mach (m : List MRow) : Prop where
 pos : 0 < m.length
 src : ∃ (s : Nat) (t : Rat), m[s]? = some (MRow.source t) ∧ ∀ (i : Nat) (r : MRow), m[i]? = some r → r.isSrc = true → i = s
 rk : ∃ rk : Nat → Nat, ∀ (i : Nat) (r : MRow), m[i]? = some r → ∀ d ∈ r.drv, d < m.length ∧ rk d < rk i
 whl : ∀ (i : Nat) (s : Rat) (w k : Nat), m[i]? = some (MRow.disc s w k) → w < m.length
theorem Mach.at {m : List MRow} (h : Mach m) {i : Nat} (hi : i < m.length) : m[i]? = some (m.getD i default) := by
 rw [List.getD_eq_getElem?_getD, List.getElem?_eq_getElem hi]; rfl
def drvs (m : List MRow) (i : Nat) : List Nat := (m.getD i default).drv
def rdy (m : List MRow) (st : List Nat) : List Nat := (List.range m.length).filter fun i => !decide (i ∈ st) && (drvs m i).all fun d => decide (d ∈ st)
def ordN (m : List MRow) : Nat → List Nat
 | 0 => []
 | k + 1 => ordN m k ++ (rdy m (ordN m k)).take 1
theorem mem_rdy {m : List MRow} {st : List Nat} {i : Nat} : i ∈ rdy m st ↔ i < m.length ∧ i ∉ st ∧ ∀ d ∈ drvs m i, d ∈ st := by
 unfold rdy
 simp [List.mem_filter, List.all_eq_true]
theorem missing : ∀ (n : Nat) (l : List Nat), l.Nodup → (∀ i ∈ l, i < n) → (∀ i, i < n → i ∈ l) → l.length = n := by
 intro n l nd h1 h2
 have p : l.Perm (List.range n) := (List.perm_ext_iff_of_nodup nd List.nodup_range).mpr fun a => ⟨fun h => List.mem_range.mpr (h1 a h), fun h => h2 a (List.mem_range.mp h)⟩
 rw [p.length_eq, List.length_range]
theorem rdy_all {m : List MRow} (hm : Mach m) {st : List Nat} (e : rdy m st = []) : ∀ i, i < m.length → i ∈ st := by
 obtain ⟨rk, hrk⟩ := hm.rk
 -- each shaft that does not stand asks for one of lesser rank that does not
 have step : ∀ i, i < m.length → i ∉ st → ∃ d, d < m.length ∧ d ∉ st ∧ rk d < rk i := by
  intro i hi hn
  have : i ∉ rdy m st := by rw [e]; simp
  rw [mem_rdy] at this
  have : ∃ d ∈ drvs m i, d ∉ st := by
   apply Classical.byContradiction
   intro h
   refine this ⟨hi, hn, fun d hd => Classical.byContradiction fun q => h ⟨d, hd, q⟩⟩
  obtain ⟨d, hd, hq⟩ := this
  obtain ⟨a, b⟩ := hrk i _ (hm.at hi) d hd
  exact ⟨d, a, hq, b⟩
 have all : ∀ (k i : Nat), rk i ≤ k → i < m.length → i ∈ st := by
  intro k
  induction k with
  | zero =>
   intro i hk hi
   apply Classical.byContradiction
   intro hn
   obtain ⟨d, _, _, h⟩ := step i hi hn
   omega
  | succ k ih =>
   intro i hk hi
   apply Classical.byContradiction
   intro hn
   obtain ⟨d, h1, h2, h⟩ := step i hi hn
   exact h2 (ih d (by omega) h1)
 exact fun i hi => all _ i (Nat.le_refl _) hi
theorem rdy_some {m : List MRow} (hm : Mach m) {st : List Nat} (nd : st.Nodup) (hs : ∀ i ∈ st, i < m.length) (hl : st.length < m.length) : rdy m st ≠ [] := by
 intro e
 have := missing m.length st nd hs (rdy_all hm e)
 omega
theorem ordN_ok {m : List MRow} (hm : Mach m) : ∀ k, k ≤ m.length → (ordN m k).length = k ∧ (ordN m k).Nodup ∧ ∀ i ∈ ordN m k, i < m.length
 | 0, _ => ⟨rfl, List.nodup_nil, fun i h => by cases h⟩
 | k + 1, h => by
  obtain ⟨h1, h2, h3⟩ := ordN_ok hm k (by omega)
  have ne := rdy_some hm h2 h3 (by omega)
  obtain ⟨a, l, e⟩ := List.exists_cons_of_ne_nil ne
  have ha : a ∈ rdy m (ordN m k) := by rw [e]; simp
  rw [mem_rdy] at ha
  unfold ordN
  rw [e]
  refine ⟨by simp [h1], ?_, fun i hi => ?_⟩
  · rw [List.nodup_append]
    exact ⟨h2, by simp, fun x hx y hy => by
     simp at hy
     subst hy
     exact fun q => ha.2.1 (q ▸ hx)⟩
  · rcases List.mem_append.mp hi with h | h
    · exact h3 i h
    · simp at h
      exact h ▸ ha.1
theorem rdy_end {m : List MRow} (hm : Mach m) : rdy m (ordN m m.length) = [] := by
 obtain ⟨h1, h2, h3⟩ := ordN_ok hm m.length (Nat.le_refl _)
 rw [List.eq_nil_iff_forall_not_mem]
 intro a ha
 rw [mem_rdy] at ha
 have : (ordN m m.length ++ [a]).length = m.length + 1 := by simp [h1]
 have nd : (ordN m m.length ++ [a]).Nodup := by
  rw [List.nodup_append]
  exact ⟨h2, by simp, fun x hx y hy => by
   simp at hy
   subst hy
   exact fun q => ha.2.1 (q ▸ hx)⟩
 have key : ∀ (n : Nat) (l : List Nat), l.Nodup → (∀ i ∈ l, i < n) → l.length ≤ n := by
  intro n
  induction n with
  | zero =>
   intro l _ h
   cases l with
   | nil => exact Nat.le_refl _
   | cons x l => exact absurd (h x (by simp)) (by omega)
  | succ n ih =>
   intro l nd h
   have := ih (l.erase n) (nd.erase n) fun i hi => by
    have h1 := h i (List.mem_of_mem_erase hi)
    have h2 := (nd.mem_erase_iff.mp hi).1
    omega
   have le := List.length_erase_le (a := n) (l := l)
   by_cases hn : n ∈ l
   · rw [List.length_erase_of_mem hn] at this
     omega
   · rw [List.erase_of_not_mem hn] at this
     omega
 have := key m.length _ nd fun i hi => by
  rcases List.mem_append.mp hi with h | h
  · exact h3 i h
  · simp at h
    exact h ▸ ha.1
 omega
def discs (m : List MRow) : List Nat := (List.range m.length).filter fun i => (m.getD i default).isDisc
def evenB (m : List MRow) : Bool := (discs m).all fun i => (m.getD (m.getD i default).last default).isSrc
def MRow.st : MRow → Rat
 | .source s => s
 | .gear s _ _ => s
 | .adder s _ _ => s
 | .disc s _ _ => s
def MRow.mid : MRow → Nat
 | .adder _ a _ => a
 | .disc _ w _ => w
 | _ => 0
theorem plain.row (r : MRow) (n : Nat) : plain (n + 2) (encR r) := by
 have ok : PyData.strOk r.name = true := name_ok r
 cases r with
 | source s => exact ⟨by simp, fun d hd => by
  simp only [List.mem_cons, List.not_mem_nil, or_false] at hd
  rcases hd with rfl | rfl
  · exact ok
  · exact plain.enc _ n⟩
 | gear s q k => exact ⟨by simp, fun d hd => by
  simp only [List.mem_cons, List.not_mem_nil, or_false] at hd
  rcases hd with rfl | rfl | rfl | rfl
  · exact ok
  · exact plain.enc _ n
  · exact plain.enc _ n
  · exact plain.int _⟩
 | adder s q k => exact ⟨by simp, fun d hd => by
  simp only [List.mem_cons, List.not_mem_nil, or_false] at hd
  rcases hd with rfl | rfl | rfl | rfl
  · exact ok
  · exact plain.enc _ n
  · exact plain.int _
  · exact plain.int _⟩
 | disc s q k => exact ⟨by simp, fun d hd => by
  simp only [List.mem_cons, List.not_mem_nil, or_false] at hd
  rcases hd with rfl | rfl | rfl | rfl
  · exact ok
  · exact plain.enc _ n
  · exact plain.int _
  · exact plain.int _⟩
theorem one_such {α : Type} (p : α → Bool) : ∀ (l : List α) (s : Nat), (∃ x, l[s]? = some x ∧ p x = true) → (∀ (i : Nat) x, l[i]? = some x → p x = true → i = s) → (l.filter p).length = 1
 | [], s, h, _ => by
  obtain ⟨x, h, _⟩ := h
  simp at h
 | y :: l, 0, h, u => by
  obtain ⟨x, hx, hp⟩ := h
  simp at hx
  subst hx
  have : l.filter p = [] := List.filter_eq_nil_iff.mpr fun z hz hpz => by
   obtain ⟨i, hi⟩ := List.getElem?_of_mem hz
   have := u (i + 1) z (by simpa using hi) hpz
   omega
  rw [List.filter_cons_of_pos hp, this]
  rfl
 | y :: l, s + 1, h, u => by
  obtain ⟨x, hx, hp⟩ := h
  have hy : ¬ p y = true := fun hy => by
   have := u 0 y rfl hy
   omega
  rw [List.filter_cons_of_neg hy]
  exact one_such p l s ⟨x, by simpa using hx, hp⟩ fun i z hz hpz => by
   have := u (i + 1) z (by simpa using hz) hpz
   omega
def MRow.behind (n sh : Nat) : MRow → MRow
 | .source s => .gear s 1 sh
 | .gear s q k => .gear s q (k + n)
 | .adder s a b => .adder s (a + n) (b + n)
 | .disc s w k => .disc s (w + n) (k + n)
end Ow
namespace Ow
open PySem PySem.Spec PySem.SeqAt PyProof.Rows L2
def af (f g : Nat → Rat) (k j : Nat) : Rat := sumF (fun i => (((k - i : Nat) : Int) : Rat) * (f i * g (k - i))) j
def rowF (r : MRow) (T : Nat → Nat → Rat) (k : Nat) : Rat := match r with
 | .source _ => if k = 1 then 1 else 0
 | .gear _ q d => q * T d k
 | .adder _ a b => T a k + T b k
 | .disc _ w d => af (T w) (T d) k k / ((k : Int) : Rat)
structure Turn (m : List MRow) (T : Nat → Nat → Rat) : Prop where
 zero : ∀ i, i < m.length → T i 0 = (m.getD i default).st
 step : ∀ i k, i < m.length → 0 < k → T i k = rowF (m.getD i default) T k
def QQ : Nat := 360360
def GG : Nat := 30720
def fr (m : List MRow) (i : Nat) : Nat := match m.getD i default with
 | .source _ => 1
 | .gear _ q _ => q.den
 | .adder _ _ _ => 1
 | .disc _ w _ => QQ * ((m.getD w default).st).den
def pF (m : List MRow) : List Nat → Nat
 | [] => 1
 | i :: is => fr m i * pF m is
theorem fr_pos (m : List MRow) (i : Nat) : 0 < fr m i := by
 unfold fr
 cases m.getD i default with
 | source s => exact Nat.one_pos
 | gear s q d => exact q.den_pos
 | adder s a b => exact Nat.one_pos
 | disc s w d => exact Nat.mul_pos (by decide) (Rat.den_pos _)
theorem pF_pos (m : List MRow) : ∀ l, 0 < pF m l
 | [] => Nat.one_pos
 | i :: l => Nat.mul_pos (fr_pos m i) (pF_pos m l)
theorem pF_app (m : List MRow) (i : Nat) : ∀ l, pF m (l ++ [i]) = pF m l * fr m i
 | [] => by show fr m i * 1 = 1 * fr m i; omega
 | j :: l => by
  show fr m j * pF m (l ++ [i]) = fr m j * pF m l * fr m i
  rw [pF_app m i l, Nat.mul_assoc]
def BD (m : List MRow) (F : Nat) (P : List Nat) (k : Nat) (x : Rat) : Prop := fb (pF m P * F ^ (k - 1)) (pF m P * F ^ (k - 1) * GG ^ (P.length + m.length * (k - 1))) x
theorem fb.up {d M e N : Nat} {r : Rat} (h : fb d M r) (he : 0 < e) (hM : M * e ≤ N) {d' : Nat} (hd : d' = d * e) : fb d' N r := by
 subst hd
 exact (h.lift e he).mono hM
theorem BD.more {m : List MRow} {F k : Nat} {P : List Nat} {x : Rat} (h : BD m F P k x) (i : Nat) : BD m F (P ++ [i]) k x := by
 unfold BD at h ⊢
 refine h.up (e := fr m i) (fr_pos m i) ?_ (by rw [pF_app]; grind)
 rw [pF_app, List.length_append, show P.length + [i].length + m.length * (k - 1) = (P.length + m.length * (k - 1)) + 1 by simp; omega, Nat.pow_succ]
 calc pF m P * F ^ (k - 1) * GG ^ (P.length + m.length * (k - 1)) * fr m i = pF m P * fr m i * F ^ (k - 1) * GG ^ (P.length + m.length * (k - 1)) * 1 := by grind
  _ ≤ pF m P * fr m i * F ^ (k - 1) * GG ^ (P.length + m.length * (k - 1)) * GG := Nat.mul_le_mul_left _ (by decide)
  _ = _ := by grind
theorem fb.self (r : Rat) : fb r.den r.num.natAbs r := by
 have := fb.divInt (z := r.num) (b := r.den) (a := 1) (d := r.den) (M := r.num.natAbs) r.den_pos (by omega) r.den_pos (by omega)
 rwa [Rat.num_divInt_den] at this
theorem fb.div {d M k : Nat} {r : Rat} (h : fb d M r) (hk : 0 < k) : fb (d * k) M (r / ((k : Int) : Rat)) := by
 obtain ⟨h1, z, e, hz⟩ := h
 refine ⟨Nat.mul_pos h1 hk, z, ?_, hz⟩
 have hk' := cast_pos_ne hk
 rw [cast_mul, ← e]
 grind
theorem QQ_dvd {k : Nat} (h : 0 < k) (h2 : k ≤ 15) : ∃ c, QQ = k * c ∧ 0 < c := by
 have : k = 1 ∨ k = 2 ∨ k = 3 ∨ k = 4 ∨ k = 5 ∨ k = 6 ∨ k = 7 ∨ k = 8 ∨ k = 9 ∨ k = 10 ∨ k = 11 ∨ k = 12 ∨ k = 13 ∨ k = 14 ∨ k = 15 := by omega
 rcases this with rfl | rfl | rfl | rfl | rfl | rfl | rfl | rfl | rfl | rfl | rfl | rfl | rfl | rfl | rfl
 all_goals first
  | exact ⟨360360, rfl, by decide⟩ | exact ⟨180180, rfl, by decide⟩ | exact ⟨120120, rfl, by decide⟩ | exact ⟨90090, rfl, by decide⟩ | exact ⟨72072, rfl, by decide⟩ | exact ⟨60060, rfl, by decide⟩ | exact ⟨51480, rfl, by decide⟩
  | exact ⟨45045, rfl, by decide⟩ | exact ⟨40040, rfl, by decide⟩ | exact ⟨36036, rfl, by decide⟩ | exact ⟨32760, rfl, by decide⟩ | exact ⟨30030, rfl, by decide⟩ | exact ⟨27720, rfl, by decide⟩ | exact ⟨25740, rfl, by decide⟩ | exact ⟨24024, rfl, by decide⟩
theorem fb.cast {d d' M M' : Nat} {r : Rat} (h : fb d M r) (e : d = d') (e2 : M = M') : fb d' M' r := by
 subst e; subst e2; exact h
theorem BD.term {m : List MRow} {T : Nat → Nat → Rat} {F k w d D E den : Nat} {P : List Nat} (hk : 0 < k) (h15 : k ≤ 15) (hst : fb den 2047 (T w 0)) (hdk : fb D (D * E) (T d k)) (hd : ∀ j, 0 < j → j ≤ k → BD m F P j (T d j))
 (hc : ∀ t, 0 < t → t < k → fb (F ^ t) (F ^ t * GG ^ (m.length * t)) (T w t)) (hD : pF m P * F ^ (k - 1) = D) (hE : GG ^ (P.length + m.length * (k - 1)) = E) (hden0 : 0 < den) :
 ∀ t, t < k → fb (D * den) (15 * 2047 * (D * E) * den) ((((k - t : Nat) : Int) : Rat) * (T w t * T d (k - t))) := by
 intro t ht
 have hi15 : fb 1 15 (((k - t : Nat) : Int) : Rat) := fb.of_int _ (by omega)
 by_cases h0 : t = 0
 · subst h0
   have p := hi15.mul (hst.mul hdk)
   refine fb.mono (p.cast (by grind) rfl) ?_
   calc 15 * (2047 * (D * E)) = 15 * 2047 * (D * E) * 1 := by grind
    _ ≤ 15 * 2047 * (D * E) * den := Nat.mul_le_mul_left _ hden0
 · have a := hc t (by omega) ht
   have b := hd (k - t) (by omega) (by omega)
   have p := hi15.mul (a.mul b)
   have z : F ^ t * (pF m P * F ^ (k - t - 1)) = D := by
    rw [← hD, show k - 1 = t + (k - t - 1) by omega, Nat.pow_add]
    grind
   have z2 : GG ^ (m.length * t) * GG ^ (P.length + m.length * (k - t - 1)) = E := by
    rw [← hE, ← Nat.pow_add]
    congr 1
    rw [show k - 1 = t + (k - t - 1) by omega, Nat.mul_add]
    omega
   have p := p.cast (d' := D) (M' := 15 * (D * E)) (by rw [z]; omega) (by rw [← z, ← z2]; grind)
   refine (p.up (e := den) hden0 ?_ rfl)
   calc 15 * (D * E) * den = 15 * 1 * (D * E) * den := by grind
    _ ≤ 15 * 2047 * (D * E) * den := Nat.mul_le_mul_right _ (Nat.mul_le_mul_right _ (by decide))
theorem BD.step {m : List MRow} {T : Nat → Nat → Rat} {F k i : Nat} {P : List Nat} (hF : 0 < F) (hk : 0 < k) (h15 : k ≤ 15) (hw : ∀ w, w < m.length → T w 0 = (m.getD w default).st) (hn : ∀ r ∈ m, ∀ q ∈ r.nums, q.num.natAbs ≤ 2047)
 (hi : m[i]? = some (m.getD i default)) (hwl : ∀ s w d, m.getD i default = .disc s w d → w < m.length) (hd : ∀ d ∈ (m.getD i default).drv, ∀ j, 0 < j → j ≤ k → BD m F P j (T d j))
 (hc : ∀ w, w < m.length → ∀ t, 0 < t → t < k → fb (F ^ t) (F ^ t * GG ^ (m.length * t)) (T w t)) (e : T i k = rowF (m.getD i default) T k) : BD m F (P ++ [i]) k (T i k) := by
 have hmem := List.mem_of_getElem? hi
 have hP := pF_pos m P
 have hFk : 0 < F ^ (k - 1) := Nat.pow_pos hF
 obtain ⟨D, hD⟩ : ∃ D, pF m P * F ^ (k - 1) = D := ⟨_, rfl⟩
 have hD0 : 0 < D := hD ▸ Nat.mul_pos hP hFk
 obtain ⟨E, hE⟩ : ∃ E, GG ^ (P.length + m.length * (k - 1)) = E := ⟨_, rfl⟩
 have hE0 : 0 < E := hE ▸ Nat.pow_pos (by decide)
 have hB : pF m (P ++ [i]) * F ^ (k - 1) = D * fr m i := by rw [pF_app, ← hD]; grind
 have hM : GG ^ ((P ++ [i]).length + m.length * (k - 1)) = E * GG := by
  rw [List.length_append, show P.length + [i].length + m.length * (k - 1) = (P.length + m.length * (k - 1)) + 1 by simp; omega, Nat.pow_succ, hE]
 unfold BD at hd ⊢
 rw [hB, hM, e]
 have hfr : fr m i = match m.getD i default with
  | .source _ => 1
  | .gear _ q _ => q.den
  | .adder _ _ _ => 1
  | .disc _ w _ => QQ * ((m.getD w default).st).den := rfl
 have hdk : ∀ d ∈ (m.getD i default).drv, fb D (D * E) (T d k) := fun d h => by
  have := hd d h k hk (Nat.le_refl _)
  rwa [hD, hE] at this
 revert hd hdk hfr hmem hwl
 cases m.getD i default with
 | source s =>
  intro hwl hd hmem hfr hdk
  have one : fb 1 1 (if k = 1 then (1 : Rat) else 0) := by
   split
   · exact fb.of_int 1 (by decide)
   · exact (fb.zero (by decide)).mono (by omega)
  refine one.up (e := D * fr m i) (Nat.mul_pos hD0 (fr_pos m i)) ?_ (by omega)
  rw [Nat.one_mul]
  exact Nat.le_mul_of_pos_right _ (Nat.mul_pos hE0 (by decide))
 | gear s q d =>
  intro hwl hd hmem hfr hdk
  have hfr : fr m i = q.den := hfr
  have hq := hn _ hmem q (by simp [MRow.nums])
  have := (fb.self q).mul (hdk d (by simp [MRow.drv]))
  rw [hfr]
  refine this.up (e := 1) (by decide) ?_ (by grind)
  calc q.num.natAbs * (D * E) * 1 ≤ (q.den * 2047) * (D * E) * 1 := Nat.mul_le_mul_right _ (Nat.mul_le_mul_right _ (Nat.le_trans hq (Nat.le_mul_of_pos_left _ q.den_pos)))
   _ = D * q.den * (E * 2047) := by grind
   _ ≤ D * q.den * (E * GG) := Nat.mul_le_mul_left _ (Nat.mul_le_mul_left _ (by decide))
 | adder s a b =>
  intro hwl hd hmem hfr hdk
  have hfr : fr m i = 1 := hfr
  have := (hdk a (by simp [MRow.drv])).add (hdk b (by simp [MRow.drv]))
  rw [hfr]
  refine this.up (e := 1) (by decide) ?_ rfl
  calc (D * E + D * E) * 1 = D * 1 * (E * 2) := by grind
   _ ≤ D * 1 * (E * GG) := Nat.mul_le_mul_left _ (Nat.mul_le_mul_left _ (by decide))
 | disc s w d =>
  intro hwl hd hmem hfr hdk
  have hwm := hwl s w d rfl
  obtain ⟨den, hden⟩ : ∃ x, ((m.getD w default).st).den = x := ⟨_, rfl⟩
  have hfr : fr m i = QQ * ((m.getD w default).st).den := hfr
  rw [hden] at hfr
  have hden0 : 0 < den := hden ▸ Rat.den_pos _
  have hst : fb den 2047 (T w 0) := by
   rw [hw w hwm]
   have := fb.self (m.getD w default).st
   rw [hden] at this
   refine this.mono (hn (m.getD w default) ?_ _ ?_)
   · rw [List.getD_eq_getElem?_getD, List.getElem?_eq_getElem hwm]
     exact List.getElem_mem hwm
   · cases m.getD w default <;> simp [MRow.nums, MRow.st]
  have term := BD.term hk h15 hst (hdk d (by simp [MRow.drv])) (hd d (by simp [MRow.drv])) (hc w hwm) hD hE hden0
  have hs := (fb.sum (Nat.mul_pos hD0 hden0) k term).div hk
  obtain ⟨c, hc1, hc2⟩ := QQ_dvd hk h15
  rw [hfr]
  refine hs.up (e := c) hc2 ?_ (by rw [hc1]; grind)
  calc k * (15 * 2047 * (D * E) * den) * c = D * (QQ * den) * (E * (15 * 2047)) := by rw [hc1]; grind
   _ ≤ D * (QQ * den) * (E * GG) := Nat.mul_le_mul_left _ (Nat.mul_le_mul_left _ (by decide))
theorem bounds {m : List MRow} (hm : Mach m) {T : Nat → Nat → Rat} (hT : Turn m T) (hn : ∀ r ∈ m, ∀ q ∈ r.nums, q.num.natAbs ≤ 2047) : ∀ k, 0 < k → k ≤ 15 → ∀ j, j ≤ m.length → ∀ d ∈ ordN m j, BD m (pF m (ordN m m.length)) (ordN m j) k (T d k) := by
 intro k
 induction k using Nat.strongRecOn with
 | ind k ih =>
  intro hk h15 j
  induction j with
  | zero => intro _ d hd; cases hd
  | succ j jh =>
   intro hj d hd
   obtain ⟨o1, o2, o3⟩ := ordN_ok hm j (by omega)
   obtain ⟨a, l, hc⟩ := List.exists_cons_of_ne_nil (rdy_some hm o2 o3 (by omega))
   have ho : ordN m (j + 1) = ordN m j ++ [a] := by
    show ordN m j ++ _ = _
    rw [hc]; rfl
   have ha : a ∈ rdy m (ordN m j) := by rw [hc]; simp
   rw [mem_rdy] at ha
   rw [ho] at hd ⊢
   rcases List.mem_append.mp hd with h | h
   · exact (jh (by omega) d h).more a
   · have : d = a := by simpa using h
     subst this
     refine BD.step (pF_pos m _) hk h15 hT.zero hn (hm.at ha.1) (fun s w q e => ?_) (fun e he i hi hik => ?_) (fun w hw t ht htk => ?_) (hT.step d k ha.1 hk)
     · exact hm.whl d s w q (by rw [hm.at ha.1, e])
     · by_cases z : i = k
       · subst z
         exact jh (by omega) e (ha.2.2 e he)
       · exact ih i (by omega) hi (by omega) j (by omega) e (ha.2.2 e he)
     · have all := rdy_all hm (rdy_end hm) w hw
       have := ih t htk ht (by omega) m.length (Nat.le_refl _) w all
       unfold BD at this
       obtain ⟨p1, _, _⟩ := ordN_ok hm m.length (Nat.le_refl _)
       rw [p1] at this
       obtain ⟨t', rfl⟩ : ∃ q, t = q + 1 := ⟨t - 1, by omega⟩
       rw [Nat.add_sub_cancel] at this
       refine this.cast (by rw [Nat.pow_succ]; grind) ?_
       rw [Nat.mul_succ, Nat.add_comm (m.length * t'), Nat.pow_succ]
       grind
def tab (T : Nat → Nat → Rat) (n : Nat) (L : Nat → Nat) : D := .lst ((List.range n).map fun i => encS (tl (T i) (L i)))
theorem forL_rngL {T : Tg} {G : List D → SO} (lo : Int) (n : Nat) (I : Nat → List D → Prop) (σ : List D) (h0 : I 0 σ) (hs : ∀ (i : Nat) σ, i < n → I i σ → ∃ σ1 σ2, bindT T (.int (lo + i)) σ = some σ1 ∧ G σ1 = .nxt σ2 ∧ I (i + 1) σ2) : ∃ σ', forL T G (rngD lo n) σ = .nxt σ' ∧ I n σ' := by
 obtain ⟨σ', e, h⟩ := forL_inv (rngD lo n) I σ h0 fun i d σ hd hI => by
  obtain ⟨hi, rfl⟩ := rngD_at hd
  obtain ⟨σ1, σ2, a, b, c⟩ := hs i σ hi hI
  exact ⟨σ1, σ2, a, .inl b, c⟩
 rw [rngD_len] at h
 exact ⟨σ', e, h⟩
end Ow
namespace Ow
open PySem PySem.Spec PySem.SeqAt PyProof.Rows L2
def greatM (m : List MRow) (a b : Nat) (s1 s2 : Rat) : List MRow := m ++ [.disc s1 a b, .disc s2 b a, .adder ((m.getD a default).st * (m.getD b default).st) m.length (m.length + 1)]
theorem greatM_len (m : List MRow) (a b : Nat) (s1 s2 : Rat) : (greatM m a b s1 s2).length = m.length + 3 := by
 unfold greatM
 rw [List.length_append]
 rfl
theorem greatM_at {m : List MRow} {a b : Nat} {s1 s2 : Rat} {i : Nat} {r : MRow} (h : (greatM m a b s1 s2)[i]? = some r) : (i < m.length ∧ m[i]? = some r) ∨ (i = m.length ∧ r = .disc s1 a b) ∨ (i = m.length + 1 ∧ r = .disc s2 b a) ∨ (i = m.length + 2 ∧ r = .adder ((m.getD a default).st * (m.getD b default).st) m.length (m.length + 1)) := by
 have hl := (List.getElem?_eq_some_iff.mp h).1
 rw [greatM_len] at hl
 unfold greatM at h
 by_cases hi : i < m.length
 · rw [List.getElem?_append_left hi] at h
   exact .inl ⟨hi, h⟩
 · rw [List.getElem?_append_right (by omega)] at h
   have : i = m.length ∨ i = m.length + 1 ∨ i = m.length + 2 := by omega
   rcases this with rfl | rfl | rfl
   · rw [Nat.sub_self] at h
     exact .inr (.inl ⟨rfl, (Option.some.inj h).symm⟩)
   · rw [show m.length + 1 - m.length = 1 by omega] at h
     exact .inr (.inr (.inl ⟨rfl, (Option.some.inj h).symm⟩))
   · rw [show m.length + 2 - m.length = 2 by omega] at h
     exact .inr (.inr (.inr ⟨rfl, (Option.some.inj h).symm⟩))
theorem Mach.great {m : List MRow} (h : Mach m) {a b : Nat} (ha : a < m.length) (hb : b < m.length) (s1 s2 : Rat) : Mach (greatM m a b s1 s2) := by
 have len := greatM_len m a b s1 s2
 refine ⟨by omega, ?_, ?_, ?_⟩
 · obtain ⟨s, t, e, u⟩ := h.src
   have hsl := (List.getElem?_eq_some_iff.mp e).1
   refine ⟨s, t, by unfold greatM; rw [List.getElem?_append_left hsl]; exact e, fun i r hr hs => ?_⟩
   rcases greatM_at hr with ⟨_, q⟩ | ⟨_, rfl⟩ | ⟨_, rfl⟩ | ⟨_, rfl⟩
   · exact u i r q hs
   · cases hs
   · cases hs
   · cases hs
 · obtain ⟨rk, hrk⟩ := h.rk
   refine ⟨fun i => if i < m.length then rk i else if i = m.length + 2 then rk a + rk b + 2 else rk a + rk b + 1, fun i r hr d hd => ?_⟩
   rcases greatM_at hr with ⟨hi, q⟩ | ⟨hi, rfl⟩ | ⟨hi, rfl⟩ | ⟨hi, rfl⟩
   · obtain ⟨x, y⟩ := hrk i r q d hd
     refine ⟨by omega, ?_⟩
     simp only
     rw [if_pos x, if_pos hi]
     exact y
   · have : d = b := by simpa [MRow.drv] using hd
     subst this
     refine ⟨by omega, ?_⟩
     simp only
     rw [if_pos hb, if_neg (by omega), if_neg (by omega)]
     omega
   · have : d = a := by simpa [MRow.drv] using hd
     subst this
     refine ⟨by omega, ?_⟩
     simp only
     rw [if_pos ha, if_neg (by omega), if_neg (by omega)]
     omega
   · have : d = m.length ∨ d = m.length + 1 := by simpa [MRow.drv] using hd
     refine ⟨by omega, ?_⟩
     simp only
     rw [if_neg (by omega), if_neg (by omega), if_neg (by omega), if_pos hi]
     omega
 · intro i s w k hr
   rcases greatM_at hr with ⟨_, q⟩ | ⟨_, e⟩ | ⟨_, e⟩ | ⟨_, e⟩
   · have := h.whl i s w k q
     omega
   · cases e; omega
   · cases e; omega
   · cases e
end Ow
namespace Ow
open PySem PySem.Spec PySem.SeqAt PyProof.Rows L2
end Ow
namespace Ow
open PySem PySem.Spec PySem.SeqAt PyProof.Rows L2
theorem sumF_ext {f : Nat → Rat} {m : Nat} : ∀ {k : Nat}, (∀ i, m ≤ i → i < m + k → f i = 0) → sumF f (m + k) = sumF f m
 | 0, _ => rfl
 | k + 1, h => by
  show sumF f (m + k) + f (m + k) = _
  rw [sumF_ext fun i a b => h i a (by omega), h (m + k) (by omega) (by omega)]
  grind
theorem sumF_more {f : Nat → Rat} {m n : Nat} (hmn : m ≤ n) (h : ∀ i, m ≤ i → i < n → f i = 0) : sumF f n = sumF f m := by
 obtain ⟨k, rfl⟩ : ∃ k, n = m + k := ⟨n - m, by omega⟩
 exact sumF_ext h
def bF (n L : Nat) (f : Nat → Rat) : Prop := ∃ d M, 0 < d ∧ d ≤ 2 ^ n ∧ M ≤ 2 ^ n ∧ ∀ i, i < L → fb d M (f i)
theorem bF.sz {n L : Nat} {f : Nat → Rat} (h : bF n L f) {i : Nat} (hi : i < L) : sz (n + 1) (f i) := by
 obtain ⟨d, M, h0, hd, hM, hf⟩ := h
 exact (hf i hi).sz (Nat.lt_of_le_of_lt hd (Nat.pow_lt_pow_right (by omega) (by omega))) (Nat.lt_of_le_of_lt hM (Nat.pow_lt_pow_right (by omega) (by omega)))
theorem bF.szS {n L : Nat} {f : Nat → Rat} (h : bF n L f) : szS (n + 1) (tl f L) := fun x hx => by
 unfold tl at hx
 obtain ⟨i, hi, rfl⟩ := List.mem_map.mp hx
 exact h.sz (List.mem_range.mp hi)
theorem bF.less {n L L' : Nat} {f : Nat → Rat} (h : bF n L f) (hl : L' ≤ L) : bF n L' f := by
 obtain ⟨d, M, h0, hd, hM, hf⟩ := h
 exact ⟨d, M, h0, hd, hM, fun i hi => hf i (by omega)⟩
theorem bF.mono {n n' L : Nat} {f : Nat → Rat} (h : bF n L f) (hn : n ≤ n') : bF n' L f := by
 obtain ⟨d, M, h0, hd, hM, hf⟩ := h
 have := Nat.pow_le_pow_right (show 0 < 2 by omega) hn
 exact ⟨d, M, h0, Nat.le_trans hd this, Nat.le_trans hM this, hf⟩
theorem bF.congr {n L : Nat} {f g : Nat → Rat} (h : bF n L f) (e : ∀ i, i < L → f i = g i) : bF n L g := by
 obtain ⟨d, M, h0, hd, hM, hf⟩ := h
 exact ⟨d, M, h0, hd, hM, fun i hi => by rw [← e i hi]; exact hf i hi⟩
theorem p2mul {a b n m : Nat} (ha : a ≤ 2 ^ n) (hb : b ≤ 2 ^ m) : a * b ≤ 2 ^ (n + m) := by
 rw [Nat.pow_add]
 exact Nat.mul_le_mul ha hb
theorem bF.add {n n' L : Nat} {f g : Nat → Rat} (h : bF n L f) (h2 : bF n' L g) : bF (n + n' + 1) L fun i => f i + g i := by
 obtain ⟨d, M, h0, hd, hM, hf⟩ := h
 obtain ⟨d', M', h0', hd', hM', hf'⟩ := h2
 refine ⟨d * d', M * d' + M' * d, Nat.mul_pos h0 h0', Nat.le_trans (p2mul hd hd') (Nat.pow_le_pow_right (by omega) (by omega)), ?_, fun i hi => ((hf i hi).lift d' h0').add (((hf' i hi).lift d h0).cast (Nat.mul_comm _ _) rfl)⟩
 have a := p2mul hM hd'
 have b := p2mul hM' hd
 rw [Nat.add_comm n' n] at b
 rw [Nat.pow_succ]
 omega
theorem bF.cv {n n' L : Nat} {f g : Nat → Rat} (h : bF n L f) (h2 : bF n' L g) (hL : L ≤ 16) : bF (n + n' + 4) L (Ow.cv f g) ∧ ∀ k j, k < L → j ≤ k + 1 → Ow.sz (n + n' + 5) (sumF (fun i => f i * g (k - i)) j) := by
 obtain ⟨d, M, h0, hd, hM, hf⟩ := h
 obtain ⟨d', M', h0', hd', hM', hf'⟩ := h2
 have key : ∀ k j, k < L → j ≤ k + 1 → fb (d * d') (16 * (M * M')) (sumF (fun i => f i * g (k - i)) j) := fun k j hk hj => (fb.sum (Nat.mul_pos h0 h0') j fun i hi => (hf i (by omega)).mul (hf' (k - i) (by omega))).mono (Nat.mul_le_mul_right _ (by omega))
 have a := p2mul hd hd'
 have b := p2mul (show 16 ≤ 2 ^ 4 by decide) (p2mul hM hM')
 have e1 : 2 ^ (4 + (n + n')) = 2 ^ (n + n' + 4) := by rw [Nat.add_comm]
 refine ⟨⟨d * d', 16 * (M * M'), Nat.mul_pos h0 h0', Nat.le_trans a (Nat.pow_le_pow_right (by omega) (by omega)), by rw [← e1]; exact b, fun k hk => key k (k + 1) hk (Nat.le_refl _)⟩, fun k j hk hj => (key k j hk hj).sz (Nat.lt_of_le_of_lt a (Nat.pow_lt_pow_right (by omega) (by omega))) (Nat.lt_of_le_of_lt b (Nat.pow_lt_pow_right (by omega) (by omega)))⟩
end Ow
namespace Ow
open PySem PySem.Spec PySem.SeqAt PyProof.Rows L2
end Ow
namespace Ow
open PySem PySem.Spec PySem.SeqAt PyProof.Rows L2
section
variable {σ : List D} {r : Nat}
theorem a_dnewT : eDNewT σ = .ok (.dT []) σ := (rfl)
def gt4 (r : Nat) (y : D) (x : ER D) : ER D := match x with
 | .ok z σ2 => ofO (dGetT (σ2.getD r .non) y z) σ2
 | .exc c p s => .exc c p s
 | .stuck => .stuck
def gt3 (r : Nat) (gf : List D → ER D) (x : ER D) : ER D := match x with
 | .ok y σ1 => gt4 r y (gf σ1)
 | .exc c p s => .exc c p s
 | .stuck => .stuck
def gt2 (r : Nat) (ge gf : List D → ER D) (σ : List D) (d : D) : ER D := if isDT d = true then gt3 r gf (ge σ) else .stuck
theorem a_getT {ge gf : List D → ER D} : eGetT r ge gf σ = gt2 r ge gf σ (σ.getD r .non) := by
 unfold eGetT gt2
 split
 · unfold gt3
   cases ge σ with
   | ok y σ1 =>
    show ER.bind (gf σ1) _ = _
    dsimp only
    unfold gt4
    cases gf σ1 <;> rfl
   | _ => rfl
 · rfl
theorem gt2_d {ge gf : List D → ER D} {kds : List (List Int × D)} : gt2 r ge gf σ (.dT kds) = gt3 r gf (ge σ) := (rfl)
theorem gt3_o {gf : List D → ER D} {y : D} : gt3 r gf (.ok y σ) = gt4 r y (gf σ) := (rfl)
theorem gt4_o {y z : D} : gt4 r y (.ok z σ) = ofO (dGetT (σ.getD r .non) y z) σ := (rfl)
def it3 (r : Nat) (x : ER D) : ER D := match x with
 | .ok y σ1 => ofO (dIxT (σ1.getD r .non) y) σ1
 | .exc c p s => .exc c p s
 | .stuck => .stuck
def it2 (r : Nat) (gi : List D → ER D) (σ : List D) (d : D) : ER D := if isDT d = true then it3 r (gi σ) else .stuck
theorem a_ixT {gi : List D → ER D} : eIxT r gi σ = it2 r gi σ (σ.getD r .non) := by
 unfold eIxT it2
 split
 · unfold it3
   cases gi σ <;> rfl
 · rfl
theorem it2_d {gi : List D → ER D} {kds : List (List Int × D)} : it2 r gi σ (.dT kds) = it3 r (gi σ) := (rfl)
theorem it3_o {y : D} : it3 r (.ok y σ) = ofO (dIxT (σ.getD r .non) y) σ := (rfl)
def st3 (r : Nat) (v : D) (x : ER D) : SO := match x with
 | .stuck => .stuck
 | .ok i σ1 => setd4 r σ1 (dPutT (σ1.getD r .non) i v)
 | .exc c p σ1 => .exc c p σ1
def st2 (r : Nat) (gi : List D → ER D) (x : ER D) : SO := match x with
 | .stuck => .stuck
 | .ok v σ1 => st3 r v (gi σ1)
 | .exc c p σ1 => .exc c p σ1
theorem a_setT {gv gi : List D → ER D} : sSetT r gv gi σ = st2 r gi (gv σ) := by
 unfold sSetT sOf st2
 cases gv σ with
 | ok v σ1 =>
  dsimp only
  unfold st3
  cases gi σ1 with
  | ok i σ2 => dsimp only; unfold setd4; cases dPutT (σ2.getD r .non) i v <;> rfl
  | _ => rfl
 | _ => rfl
theorem st2_o {gi : List D → ER D} {v : D} : st2 r gi (.ok v σ) = st3 r v (gi σ) := (rfl)
theorem st3_o {i v : D} : st3 r v (.ok i σ) = setd4 r σ (dPutT (σ.getD r .non) i v) := (rfl)
def ky2 (σ : List D) (d : D) : ER (List D) := match d with
 | .dT kds => .ok (kds.map fun kv => .tup (kv.1.map D.int)) σ
 | _ => .stuck
theorem a_keysT : gKeysT r σ = ky2 σ (σ.getD r .non) := (rfl)
theorem ky2_d {kds : List (List Int × D)} : ky2 σ (.dT kds) = .ok (kds.map fun kv => .tup (kv.1.map D.int)) σ := (rfl)
theorem forL_map {α : Type} {T : Tg} {G : List D → SO} (g : α → D) (l : List α) (I : Nat → List D → Prop) (σ : List D) (h0 : I 0 σ) (hs : ∀ (i : Nat) a σ, l[i]? = some a → I i σ → ∃ σ1 σ2, bindT T (g a) σ = some σ1 ∧ G σ1 = .nxt σ2 ∧ I (i + 1) σ2) : ∃ σ', forL T G (l.map g) σ = .nxt σ' ∧ I l.length σ' := by
 obtain ⟨σ', e, h⟩ := forL_inv (T := T) (G := G) (l.map g) I σ h0 fun i d σ hd hI => by
  rw [List.getElem?_map, Option.map_eq_some_iff] at hd
  obtain ⟨a, ha, rfl⟩ := hd
  obtain ⟨σ1, σ2, e1, e2, h2⟩ := hs i a σ ha hI
  exact ⟨σ1, σ2, e1, .inl e2, h2⟩
 rw [List.length_map] at h
 exact ⟨σ', e, h⟩
theorem take_at {α : Type} {l : List α} {i : Nat} {a : α} (h : l[i]? = some a) : l.take (i + 1) = l.take i ++ [a] := by
 rw [List.take_succ, h]; rfl
end
abbrev FRow := List Int × Rat
def pwD (p : List Int) : D := .tup (p.map D.int)
theorem intsOf_ints : ∀ p : List Int, intsOf (p.map D.int) = some p
 | [] => rfl
 | a :: p => by
  show (intsOf (p.map D.int)).map (a :: ·) = _
  rw [intsOf_ints p]; rfl
theorem flat_ints : ∀ p : List Int, D.flats (p.map D.int) = true
 | [] => rfl
 | a :: p => by
  show (D.flat (.int a) && D.flats (p.map D.int)) = true
  rw [flat_ints p]; rfl
theorem flat_pw (p : List Int) : (pwD p).flat = true := flat_ints p
theorem flat_enc (r : Rat) : (enc r).flat = true := rfl
def getF (L : List FRow) (p : List Int) : Rat := ((L.find? fun y => decide (y.1 = p)).map (·.2)).getD 0
def putF (L : List FRow) (x : FRow) : List FRow := if (L.any fun y => decide (y.1 = x.1)) = true then L.map (fun y => if y.1 = x.1 then (y.1, x.2) else y) else L ++ [x]
def addF (L : List FRow) (x : FRow) : List FRow := putF L (x.1, getF L x.1 + x.2)
def gatL (F : List FRow) : List FRow := F.foldl addF []
def keysF (L : List FRow) : List (List Int) := L.map (·.1)
theorem keys_put (L : List FRow) (x : FRow) : keysF (putF L x) = if (L.any fun y => decide (y.1 = x.1)) = true then keysF L else keysF L ++ [x.1] := by
 unfold putF
 split
 · unfold keysF
   rw [List.map_map]
   refine List.map_congr_left fun y _ => ?_
   show (if y.1 = x.1 then (y.1, x.2) else y).1 = y.1
   split <;> rfl
 · unfold keysF
   rw [List.map_append]; rfl
theorem any_keysF (L : List FRow) (p : List Int) : (L.any fun y => decide (y.1 = p)) = decide (p ∈ keysF L) := by
 rw [Bool.eq_iff_iff, List.any_eq_true, decide_eq_true_eq, keysF, List.mem_map]
 constructor
 · rintro ⟨y, hy, e⟩; exact ⟨y, hy, of_decide_eq_true e⟩
 · rintro ⟨y, hy, e⟩; exact ⟨y, hy, decide_eq_true e⟩
theorem nd_put {L : List FRow} (x : FRow) (h : (keysF L).Nodup) : (keysF (putF L x)).Nodup := by
 rw [keys_put, any_keysF]
 split
 · exact h
 · rename_i n
   rw [decide_eq_true_eq] at n
   rw [List.nodup_append]
   refine ⟨h, by simp, fun a ha b hb e => ?_⟩
   rw [List.mem_singleton.mp hb] at e
   exact n (e ▸ ha)
theorem get_in {L : List FRow} (h : (keysF L).Nodup) {x : FRow} (hx : x ∈ L) : L.find? (fun y => decide (y.1 = x.1)) = some x := by
 induction L with
 | nil => cases hx
 | cons y L ih =>
  rw [List.find?_cons]
  have h' : (y.1 :: keysF L).Nodup := h
  rw [List.nodup_cons] at h'
  rcases List.mem_cons.mp hx with rfl | hx
  · rw [decide_eq_true rfl]
  · have n : ¬ y.1 = x.1 := fun e => h'.1 (e ▸ List.mem_map.mpr ⟨x, hx, rfl⟩)
    rw [decide_eq_false n]
    exact ih h'.2 hx
theorem getF_in {L : List FRow} (h : (keysF L).Nodup) {x : FRow} (hx : x ∈ L) : getF L x.1 = x.2 := by
 unfold getF; rw [get_in h hx]; rfl
theorem getF_out {L : List FRow} {p : List Int} (h : ¬ p ∈ keysF L) : getF L p = 0 := by
 unfold getF
 rw [List.find?_eq_none.mpr fun y hy => ?_]
 · rfl
 · intro e
   exact h (List.mem_map.mpr ⟨y, hy, of_decide_eq_true e⟩)
def wS (φ : List Int → Rat) : List FRow → Rat
 | [] => 0
 | x :: F => x.2 * φ x.1 + wS φ F
theorem wS_append (φ : List Int → Rat) : ∀ F G : List FRow, wS φ (F ++ G) = wS φ F + wS φ G
 | [], G => by show wS φ G = 0 + wS φ G; grind
 | x :: F, G => by
  show x.2 * φ x.1 + wS φ (F ++ G) = x.2 * φ x.1 + wS φ F + wS φ G
  rw [wS_append φ F G]; grind
theorem wS_perm (φ : List Int → Rat) {F G : List FRow} (h : F.Perm G) : wS φ F = wS φ G := by
 induction h with
 | nil => rfl
 | cons x _ ih => show x.2 * φ x.1 + _ = x.2 * φ x.1 + _; rw [ih]
 | swap x y l => show y.2 * φ y.1 + (x.2 * φ x.1 + wS φ l) = x.2 * φ x.1 + (y.2 * φ y.1 + wS φ l); grind
 | trans _ _ h1 h2 => rw [h1, h2]
theorem wS_filter (φ : List Int → Rat) : ∀ F : List FRow, wS φ (F.filter fun x => decide (x.2 ≠ 0)) = wS φ F
 | [] => rfl
 | x :: F => by
  by_cases h : x.2 = 0
  · rw [List.filter_cons_of_neg (by simp [h])]
    show _ = x.2 * φ x.1 + wS φ F
    rw [wS_filter φ F, h]; grind
  · rw [List.filter_cons_of_pos (by simp [h])]
    show x.2 * φ x.1 + _ = x.2 * φ x.1 + wS φ F
    rw [wS_filter φ F]
theorem wS_map (φ : List Int → Rat) {L : List FRow} (x : FRow) (h : (keysF L).Nodup) (hx : x.1 ∈ keysF L) : wS φ (L.map fun y => if y.1 = x.1 then (y.1, x.2) else y) = wS φ L + (x.2 - getF L x.1) * φ x.1 := by
 induction L with
 | nil => cases hx
 | cons y L ih =>
  have h' : (y.1 :: keysF L).Nodup := h
  rw [List.nodup_cons] at h'
  by_cases e : y.1 = x.1
  · have g : getF (y :: L) x.1 = y.2 := by rw [← e]; exact getF_in h List.mem_cons_self
    have m : L.map (fun y => if y.1 = x.1 then (y.1, x.2) else y) = L := by
     conv => rhs; rw [← List.map_id L]
     refine List.map_congr_left fun z hz => ?_
     rw [if_neg fun e2 => h'.1 (List.mem_map.mpr ⟨z, hz, Eq.trans e2 e.symm⟩)]
     rfl
    rw [List.map_cons, if_pos e, m, g]
    show x.2 * φ y.1 + wS φ L = y.2 * φ y.1 + wS φ L + (x.2 - y.2) * φ x.1
    rw [e]; grind
  · have g : getF (y :: L) x.1 = getF L x.1 := by
     unfold getF
     rw [List.find?_cons, decide_eq_false e]
    have hx' : x.1 ∈ keysF L := by
     have hx : x.1 ∈ y.1 :: keysF L := hx
     rcases List.mem_cons.mp hx with q | q
     · exact absurd q.symm e
     · exact q
    rw [List.map_cons, if_neg e, g]
    show y.2 * φ y.1 + wS φ _ = y.2 * φ y.1 + wS φ L + _
    rw [ih h'.2 hx']; grind
theorem wS_addF (φ : List Int → Rat) {L : List FRow} (x : FRow) (h : (keysF L).Nodup) : wS φ (addF L x) = wS φ L + x.2 * φ x.1 := by
 unfold addF putF
 by_cases q : x.1 ∈ keysF L
 · rw [if_pos (by rw [any_keysF]; exact decide_eq_true q)]
   have := wS_map φ (x.1, getF L x.1 + x.2) h q
   rw [this]
   show wS φ L + (getF L x.1 + x.2 - getF L x.1) * φ x.1 = _
   grind
 · rw [if_neg (by rw [any_keysF, decide_eq_false q]; simp), wS_append, getF_out q]
   show wS φ L + ((0 + x.2) * φ x.1 + 0) = _
   grind
theorem gatL_all (F : List FRow) (P : Nat → List FRow → Prop) (h0 : P 0 []) (hs : ∀ i x L, F[i]? = some x → P i L → P (i + 1) (addF L x)) : ∀ i, i ≤ F.length → P i ((F.take i).foldl addF []) := by
 intro i
 induction i with
 | zero => intro _; exact h0
 | succ i ih =>
  intro hi
  have e : F[i]? = some F[i] := List.getElem?_eq_getElem (by omega)
  rw [take_at e, List.foldl_append]
  exact hs i _ _ e (ih (by omega))
theorem wS_gatL (φ : List Int → Rat) (F : List FRow) : wS φ (gatL F) = wS φ F := by
 have := gatL_all F (fun i L => wS φ L = wS φ (F.take i) ∧ (keysF L).Nodup) ⟨rfl, by simp [keysF]⟩ (fun i x L e h => ⟨by
  rw [wS_addF φ x h.2, h.1, take_at e, wS_append]
  show _ = _ + (x.2 * φ x.1 + 0)
  grind, nd_put _ h.2⟩) F.length (Nat.le_refl _)
 rw [List.take_length] at this
 exact this.1
def fbF (d M : Nat) (F : List FRow) : Prop := ∀ x ∈ F, fb d M x.2
def keyP (P : List Int → Prop) (F : List FRow) : Prop := ∀ x ∈ F, P x.1
def kyF (x : FRow) : List Int := x.1 ++ [x.2.num, x.2.den]
def leF (x y : FRow) : Bool := !HT.lexLt (kyF y) (kyF x)
noncomputable def sortF (F : List FRow) : List FRow := F.mergeSort leF
theorem sortF_perm (F : List FRow) : (sortF F).Perm F := List.mergeSort_perm _ _
noncomputable def gat (F : List FRow) : List FRow := sortF ((gatL F).filter fun x => decide (x.2 ≠ 0))
theorem wS_gat (φ : List Int → Rat) (F : List FRow) : wS φ (gat F) = wS φ F := by
 unfold gat
 rw [wS_perm φ (sortF_perm _), wS_filter, wS_gatL]
def addP (p q : List Int) : List Int := List.zipWith (· + ·) p q
def mulRow (x : FRow) (G : List FRow) : List FRow := G.map fun y => (addP x.1 y.1, x.2 * y.2)
def mulR (F G : List FRow) : List FRow := F.flatMap fun x => mulRow x G
theorem addP_len {p q : List Int} {n : Nat} (h : p.length = n) (h2 : q.length = n) : (addP p q).length = n := by
 unfold addP; rw [List.length_zipWith, h, h2, Nat.min_self]
def Pw (n g : Nat) (p : List Int) : Prop := p.length = n ∧ (∀ a ∈ p, 0 ≤ a) ∧ p.sum ≤ g
theorem Pw.len {n g : Nat} {F : List FRow} (h : keyP (Pw n g) F) : keyP (fun p => p.length = n) F := fun x hx => (h x hx).1
theorem addP_sum : ∀ p q : List Int, p.length = q.length → (addP p q).sum = p.sum + q.sum
 | [], [], _ => rfl
 | a :: p, b :: q, h => by
  show (a + b) + (addP p q).sum = (a + p.sum) + (b + q.sum)
  rw [addP_sum p q (by simpa using h)]; omega
 | [], _ :: _, h => by cases h
 | _ :: _, [], h => by cases h
theorem Pw.add {n g k : Nat} {p q : List Int} (h : Pw n g p) (h2 : Pw n k q) : Pw n (g + k) (addP p q) := by
 refine ⟨addP_len h.1 h2.1, ?_, ?_⟩
 · intro a ha
   unfold addP at ha
   rw [List.mem_iff_getElem?] at ha
   obtain ⟨i, e⟩ := ha
   rw [List.getElem?_zipWith] at e
   cases e1 : p[i]? with
   | none => rw [e1] at e; cases e
   | some x => cases e2 : q[i]? with
    | none => rw [e1, e2] at e; cases e
    | some y =>
     rw [e1, e2] at e
     have e : x + y = a := by simpa using e
     have := h.2.1 x (List.mem_of_getElem? e1)
     have := h2.2.1 y (List.mem_of_getElem? e2)
     omega
 · rw [addP_sum _ _ (h.1.trans h2.1.symm)]
   have := h.2.2
   have := h2.2.2
   omega
theorem sum_nonneg : ∀ {p : List Int}, (∀ a ∈ p, 0 ≤ a) → 0 ≤ p.sum
 | [], _ => Int.le_refl 0
 | a :: p, h => by
  have := sum_nonneg fun b hb => h b (List.mem_cons_of_mem a hb)
  have := h a List.mem_cons_self
  show 0 ≤ a + p.sum
  omega
theorem sum_take : ∀ {p : List Int} {i : Nat} {a : Int}, (∀ a ∈ p, 0 ≤ a) → p[i]? = some a → (p.take i).sum + a ≤ p.sum
 | b :: p, 0, a, h, e => by
  cases e
  have := sum_nonneg fun c hc => h c (List.mem_cons_of_mem b hc)
  show 0 + b ≤ b + p.sum
  omega
 | b :: p, i + 1, a, h, e => by
  have := sum_take (i := i) (fun b hb => h b (List.mem_cons_of_mem _ hb)) (by simpa using e)
  show b + (p.take i).sum + a ≤ b + p.sum
  omega
 | [], _, _, _, e => by simp at e
theorem common {s : Nat} : ∀ (F : List FRow), (∀ x ∈ F, sz s x.2) → ∃ d, 0 < d ∧ d ≤ 2 ^ (s * F.length) ∧ fbF d (2 ^ (s * F.length)) F
 | [], _ => ⟨1, by omega, Nat.one_le_two_pow, fun _ h => by cases h⟩
 | x :: F, h => by
  obtain ⟨d, h0, h1, h2⟩ := common F fun y hy => h y (List.mem_cons_of_mem _ hy)
  obtain ⟨n1, n2⟩ := h x List.mem_cons_self
  have e : 2 ^ (s * (x :: F).length) = 2 ^ s * 2 ^ (s * F.length) := by rw [List.length_cons, Nat.mul_succ, Nat.pow_add, Nat.mul_comm]
  refine ⟨x.2.den * d, Nat.mul_pos x.2.den_pos h0, by rw [e]; exact Nat.mul_le_mul (by omega) h1, ?_⟩
  intro y hy
  rcases List.mem_cons.mp hy with rfl | hy
  · have q : fb y.2.den y.2.num.natAbs y.2 := by
     have := fb.divInt (a := 1) (b := y.2.den) (d := y.2.den) (z := y.2.num) (M := y.2.num.natAbs) y.2.den_pos (Nat.mul_one _) y.2.den_pos (by rw [Nat.mul_one]; exact Nat.le_refl _)
     rwa [Rat.num_divInt_den] at this
    exact (q.lift d h0).mono (by rw [e]; exact Nat.mul_le_mul (by omega) h1)
  · have q := (h2 y hy).lift x.2.den x.2.den_pos
    rw [Nat.mul_comm d] at q
    exact q.mono (by rw [e, Nat.mul_comm]; exact Nat.mul_le_mul (by omega) (Nat.le_refl _))
theorem sum_set : ∀ {p : List Int} {j : Nat} {a : Int}, p[j]? = some a → (p.set j (a + 1)).sum = p.sum + 1
 | b :: p, 0, a, h => by
  cases h
  show (b + 1) + p.sum = b + p.sum + 1
  omega
 | b :: p, j + 1, a, h => by
  show b + (p.set j (a + 1)).sum = b + p.sum + 1
  rw [sum_set (by simpa using h)]; omega
 | [], _, _, h => by simp at h
theorem Pw.set {n k j : Nat} {p : List Int} {a : Int} (h : Pw n k p) (e : p[j]? = some a) : Pw n (k + 1) (p.set j (a + 1)) := by
 refine ⟨by rw [List.length_set]; exact h.1, fun b hb => ?_, ?_⟩
 · rcases List.mem_or_eq_of_mem_set hb with hb | rfl
   · exact h.2.1 b hb
   · have := h.2.1 a (List.mem_of_getElem? e); omega
 · rw [sum_set e]; have := h.2.2; omega
theorem Pw.mono {n k l : Nat} {p : List Int} (h : Pw n k p) (hl : k ≤ l) : Pw n l p := ⟨h.1, h.2.1, by have := h.2.2; omega⟩
theorem Pw.zero (n : Nat) : Pw n 0 (List.replicate n 0) := by
 refine ⟨List.length_replicate, fun a ha => by rw [(List.mem_replicate.mp ha).2]; exact Int.le_refl 0, ?_⟩
 have : ∀ n : Nat, (List.replicate n (0 : Int)).sum = 0 := fun n => by
  induction n with
  | zero => rfl
  | succ n ih => rw [List.replicate_succ, List.sum_cons, ih]; rfl
 rw [this]; omega
theorem fl2P (p : List Int) (σ : List D) : flat2 (.ok (pwD p) σ) = .ok (pwD p) σ := flat2_o (flat_pw p)
theorem plain.pw {p : List Int} (h : p.length ≤ 10000) (n : Nat) : plain (n + 1) (pwD p) := ⟨by rw [List.length_map]; exact h, fun d hd => by
 obtain ⟨x, _, rfl⟩ := List.mem_map.mp hd
 exact plain.int x⟩
theorem fb_1 : fb 1 1 (1 : Rat) := ⟨by omega, 1, by decide +kernel, by decide⟩
end Ow
namespace Ow
open PySem PySem.Spec PySem.SeqAt PyProof.Rows L2
end Ow
namespace Ow
open PySem PySem.Spec PySem.SeqAt PyProof.Rows L2
end Ow
namespace Ow
open PySem PySem.Spec PySem.SeqAt PyProof.Rows L2
def mS (x : Nat → Rat) : Nat → (Nat → Rat) → Nat → Rat
 | 0, acc => acc
 | k + 1, acc => cv (mS x k acc) x
def mSer : List Int → List (Nat → Rat) → (Nat → Rat) → Nat → Rat
 | a :: p, x :: xs, acc => mSer p xs (mS x a.toNat acc)
 | _, _, acc => acc
def one0 (n : Nat) : Rat := if n = 0 then 1 else 0
def foS (F : List FRow) (xs : List (Nat → Rat)) (n : Nat) : Rat := wS (fun p => mSer p xs one0 n) F
def Sys (Fs : List (List FRow)) (st : List Rat) (X : Nat → Nat → Rat) : Prop := (∀ i, i < Fs.length → X i 0 = st.getD i 0) ∧ ∀ i k, i < Fs.length → X i (k + 1) = foS (Fs.getD i []) ((List.range Fs.length).map X) k / (((k + 1 : Nat) : Int) : Rat)
theorem mS_gr {P E R S : Nat} {n0 : Nat} {x : Nat → Rat} (hn : n0 ≤ 16) (hx : ∀ n, n < n0 → fb (P ^ n * E) (R ^ n * S) (x n)) (hP : 0 < P) (hE : 0 < E) : ∀ (k t : Nat) (f : Nat → Rat), (∀ n, n < n0 → fb (P ^ n * E ^ t) (R ^ n * (16 * S) ^ t) (f n)) → ∀ n, n < n0 → fb (P ^ n * E ^ (t + k)) (R ^ n * (16 * S) ^ (t + k)) (mS x k f n)
 | 0, t, f, hf, n, h => hf n h
 | k + 1, t, f, hf, n, h => by
  have ih := mS_gr hn hx hP hE k t f hf
  show fb _ _ (sumF (fun i => mS x k f i * x (n - i)) (n + 1))
  have e : ∀ i, i < n + 1 → fb (P ^ n * E ^ (t + (k + 1))) (R ^ n * (16 * S) ^ (t + k) * S) (mS x k f i * x (n - i)) := fun i hi => by
   have := (ih i (by omega)).mul (hx (n - i) (by omega))
   have e1 : P ^ n = P ^ i * P ^ (n - i) := by rw [← Nat.pow_add, show i + (n - i) = n by omega]
   have e2 : R ^ n = R ^ i * R ^ (n - i) := by rw [← Nat.pow_add, show i + (n - i) = n by omega]
   have d : P ^ n * E ^ (t + (k + 1)) = P ^ i * E ^ (t + k) * (P ^ (n - i) * E) := by rw [e1, ← Nat.add_assoc, Nat.pow_succ]; grind
   have m : R ^ n * (16 * S) ^ (t + k) * S = R ^ i * (16 * S) ^ (t + k) * (R ^ (n - i) * S) := by rw [e2]; grind
   rw [d, m]
   exact this
  refine (fb.sum (Nat.mul_pos (Nat.pow_pos hP) (Nat.pow_pos hE)) (n + 1) e).mono ?_
  have : (n + 1) * (R ^ n * (16 * S) ^ (t + k) * S) ≤ 16 * (R ^ n * (16 * S) ^ (t + k) * S) := Nat.mul_le_mul (by omega) (Nat.le_refl _)
  refine Nat.le_trans this (Nat.le_of_eq ?_)
  rw [← Nat.add_assoc, Nat.pow_succ]
  grind
theorem mSer_gr {P E R S g n0 : Nat} (hn : n0 ≤ 16) (hP : 0 < P) (hE : 0 < E) (hES : E ≤ S) : ∀ {p : List Int} {xs : List (Nat → Rat)} {t : Nat} {f : Nat → Rat}, (∀ x ∈ xs, ∀ n, n < n0 → fb (P ^ n * E) (R ^ n * S) (x n)) → (∀ n, n < n0 → fb (P ^ n * E ^ t) (R ^ n * (16 * S) ^ t) (f n)) → (∀ a ∈ p, 0 ≤ a) → p.sum + t ≤ g → ∀ n, n < n0 → fb (P ^ n * E ^ g) (R ^ n * (16 * S) ^ g) (mSer p xs f n) := by
 have base : ∀ {t : Nat} {f : Nat → Rat}, (∀ n, n < n0 → fb (P ^ n * E ^ t) (R ^ n * (16 * S) ^ t) (f n)) → t ≤ g → ∀ n, n < n0 → fb (P ^ n * E ^ g) (R ^ n * (16 * S) ^ g) (f n) := fun {t f} hf ht n h => by
  refine (hf n h).up (e := E ^ (g - t)) (Nat.pow_pos hE) ?_ ?_
  · have : E ^ (g - t) ≤ (16 * S) ^ (g - t) := Nat.pow_le_pow_left (by omega) _
    refine Nat.le_trans (Nat.mul_le_mul (Nat.le_refl _) this) (Nat.le_of_eq ?_)
    rw [Nat.mul_assoc, ← Nat.pow_add, show t + (g - t) = g by omega]
  · rw [Nat.mul_assoc, ← Nat.pow_add, show t + (g - t) = g by omega]
 intro p
 induction p with
 | nil =>
  intro xs t f hx hf _ hs n h
  have hs : (0 : Int) + t ≤ g := hs
  show fb _ _ (f n)
  exact base hf (by omega) n h
 | cons a p ih =>
  intro xs t f hx hf hp hs n h
  have a0 := hp a List.mem_cons_self
  have p0 := sum_nonneg fun b hb => hp b (List.mem_cons_of_mem a hb)
  have hs : a + p.sum + t ≤ g := hs
  cases xs with
  | nil => exact base hf (by omega) n h
  | cons x xs => exact ih (fun y hy => hx y (List.mem_cons_of_mem _ hy)) (mS_gr hn (hx x List.mem_cons_self) hP hE a.toNat t f hf) (fun b hb => hp b (List.mem_cons_of_mem a hb)) (by omega) n h
theorem one0_gr {P E R S n0 : Nat} (hP : 0 < P) : ∀ n, n < n0 → fb (P ^ n * E ^ 0) (R ^ n * (16 * S) ^ 0) (one0 n) := fun n _ => by
 unfold one0
 split
 · rename_i h
   subst h
   exact fb_1.cast (by simp) (by simp)
 · exact (fb.zero (Nat.mul_pos (Nat.pow_pos hP) (by simp))).mono (Nat.zero_le _)
theorem wS_take {F : List FRow} {i : Nat} {x : FRow} {φ : List Int → Rat} (h : F[i]? = some x) : wS φ (F.take (i + 1)) = wS φ (F.take i) + x.2 * φ x.1 := by
 rw [take_at h, wS_append]
 show _ + (x.2 * φ x.1 + 0) = _
 grind
theorem fb_wS {d e M N : Nat} {F : List FRow} {φ : List Int → Rat} (hd : 0 < d) (he : 0 < e) (hf : fbF d M F) (h : ∀ x ∈ F, fb e N (φ x.1)) : ∀ i, i ≤ F.length → fb (d * e) (i * (M * N)) (wS φ (F.take i)) := by
 intro i
 induction i with
 | zero =>
  intro _
  rw [Nat.zero_mul]
  exact fb.zero (Nat.mul_pos hd he)
 | succ i ih =>
  intro hi
  have e : F[i]? = some F[i] := List.getElem?_eq_getElem (by omega)
  have hm := List.mem_of_getElem? e
  rw [wS_take e, Nat.succ_mul]
  exact (ih (by omega)).add ((hf _ hm).mul (h _ hm))
theorem fb_div {d N k c : Nat} {r : Rat} (h : fb d N r) (hk : 0 < k) (hc : 0 < c) : fb (d * (k * c)) (N * c) (r / ((k : Int) : Rat)) := by
 obtain ⟨d0, z, e, hz⟩ := h
 refine ⟨Nat.mul_pos d0 (Nat.mul_pos hk hc), z * c, ?_, ?_⟩
 · have k0 : ((k : Int) : Rat) ≠ 0 := cast_pos_ne hk
   rw [cast_mul, cast_mul, Rat.intCast_mul, ← e]
   have q : r / ((k : Int) : Rat) * ((k : Int) : Rat) = r := Rat.div_mul_cancel k0
   grind
 · rw [Int.natAbs_mul, Int.natAbs_natCast]
   exact Nat.mul_le_mul hz (Nat.le_refl _)
structure SysB (g l D M E S : Nat) (Fs : List (List FRow)) (st : List Rat) : Prop where
 g0 : 0 < g
 D0 : 0 < D
 E0 : 0 < E
 S0 : E ≤ S
 pw : ∀ F ∈ Fs, keyP (Pw Fs.length g) F
 len : ∀ F ∈ Fs, F.length ≤ l
 cf : ∀ F ∈ Fs, fbF D M F
 bg : ∀ i, i < Fs.length → Ow.fb E S (st.getD i 0)
def sysP (g D E : Nat) : Nat := QQ * D * E ^ (g - 1)
def sysR (g l M S : Nat) : Nat := QQ * l * M * (16 * S) ^ g
theorem SysB.gr {g l D M E S : Nat} {Fs : List (List FRow)} {st : List Rat} (h : SysB g l D M E S Fs st) {X : Nat → Nat → Rat} (hX : Sys Fs st X) : ∀ n0, n0 ≤ 16 → ∀ n, n < n0 → ∀ i, i < Fs.length → fb (sysP g D E ^ n * E) (sysR g l M S ^ n * S) (X i n) := by
 have P0 : 0 < sysP g D E := Nat.mul_pos (Nat.mul_pos (by decide) h.D0) (Nat.pow_pos h.E0)
 intro n0
 induction n0 with
 | zero => intro _ n hn; omega
 | succ n0 ih =>
  intro h16 n hn i hi
  by_cases e : n < n0
  · exact ih (by omega) n e i hi
  have e : n = n0 := by omega
  subst e
  cases n with
  | zero =>
   rw [hX.1 i hi]
   exact (h.bg i hi).cast (by simp) (by simp)
  | succ n =>
   rw [hX.2 i n hi]
   have hF : Fs.getD i [] ∈ Fs := by
    rw [List.getD_eq_getElem?_getD, List.getElem?_eq_getElem hi]
    exact List.getElem_mem hi
   have hxs : ∀ x ∈ (List.range Fs.length).map X, ∀ k, k < n + 1 → fb (sysP g D E ^ k * E) (sysR g l M S ^ k * S) (x k) := fun x hx k hk => by
    obtain ⟨j, hj, rfl⟩ := List.mem_map.mp hx
    exact ih (by omega) k hk j (List.mem_range.mp hj)
   have a := fb_wS (φ := fun p => mSer p ((List.range Fs.length).map X) one0 n) h.D0 (Nat.mul_pos (Nat.pow_pos P0) (Nat.pow_pos h.E0)) (h.cf _ hF) (fun x hx => mSer_gr (g := g) (t := 0) (f := one0) (n0 := n + 1) (by omega) P0 h.E0 h.S0 hxs (one0_gr P0) (h.pw _ hF x hx).2.1 (by have := (h.pw _ hF x hx).2.2; omega) n (by omega)) _ (Nat.le_refl _)
   rw [List.take_length] at a
   obtain ⟨c, hc, c0⟩ := QQ_dvd (k := n + 1) (by omega) (by omega)
   have b := fb_div a (show 0 < n + 1 by omega) c0
   rw [← hc] at b
   refine (b.cast (d' := sysP g D E ^ (n + 1) * E) ?_ rfl).mono ?_
   · have eg : E ^ g = E ^ (g - 1) * E := by rw [← Nat.pow_succ]; congr 1; have := h.g0; omega
     rw [Nat.pow_succ, eg]
     show D * (sysP g D E ^ n * (E ^ (g - 1) * E)) * QQ = sysP g D E ^ n * (QQ * D * E ^ (g - 1)) * E
     grind
   · have cq : c ≤ QQ := by rw [hc]; exact Nat.le_mul_of_pos_left c (by omega)
     have s1 : 1 ≤ S := Nat.le_trans h.E0 h.S0
     have r1 : (Fs.getD i []).length * (M * (sysR g l M S ^ n * (16 * S) ^ g)) * c ≤ l * (M * (sysR g l M S ^ n * (16 * S) ^ g)) * QQ := Nat.mul_le_mul (Nat.mul_le_mul (h.len _ hF) (Nat.le_refl _)) cq
     refine Nat.le_trans r1 ?_
     have r2 : l * (M * (sysR g l M S ^ n * (16 * S) ^ g)) * QQ = sysR g l M S ^ (n + 1) := by
      rw [Nat.pow_succ]
      show _ = sysR g l M S ^ n * (QQ * l * M * (16 * S) ^ g)
      grind
     rw [r2]
     exact Nat.le_mul_of_pos_right _ s1
structure FaB (g l D M E S P R s many : Nat) (F : List FRow) (xs : List (Nat → Rat)) : Prop where
 m0 : 0 < many
 m16 : many ≤ 16
 P0 : 0 < P
 D0 : 0 < D
 E0 : 0 < E
 M0 : 0 < M
 S0 : E ≤ S
 pw : keyP (Pw xs.length g) F
 len : F.length ≤ l
 cf : fbF D M F
 gx : ∀ x ∈ xs, ∀ n, n < many → fb (P ^ n * E) (R ^ n * S) (x n)
 g1 : g ≤ 100
 n1 : xs.length ≤ 500
 l1 : l ≤ 500
 s0 : 0 < s
 s1 : s ≤ 2900
 b1 : ∀ n, n < many → D * (P ^ n * E ^ (g + 1)) < 2 ^ s
 b2 : ∀ n, n < many → (l + 1) * (M * (16 * (R ^ n * (16 * S) ^ (g + 1)))) < 2 ^ s
section
variable {g l D M E S P R s many : Nat} {F : List FRow} {xs : List (Nat → Rat)}
theorem FaB.lo (z : FaB g l D M E S P R s many F xs) {n : Nat} (h : n < many) : D * (P ^ n * E ^ g) < 2 ^ s ∧ P ^ n * E ^ g < 2 ^ s ∧ P ^ n * E ^ g * E < 2 ^ s := by
 have a := z.b1 n h
 rw [Nat.pow_succ, ← Nat.mul_assoc (P ^ n)] at a
 have e1 := z.E0
 have d1 := z.D0
 have h1 : P ^ n * E ^ g ≤ P ^ n * E ^ g * E := Nat.le_mul_of_pos_right _ e1
 have h2 : P ^ n * E ^ g * E ≤ D * (P ^ n * E ^ g * E) := Nat.le_mul_of_pos_left _ d1
 have h3 : D * (P ^ n * E ^ g) ≤ D * (P ^ n * E ^ g * E) := Nat.mul_le_mul (Nat.le_refl _) h1
 omega
theorem FaB.hi (z : FaB g l D M E S P R s many F xs) {n : Nat} (h : n < many) : l * (M * (R ^ n * (16 * S) ^ g)) < 2 ^ s ∧ M * (R ^ n * (16 * S) ^ g) < 2 ^ s ∧ R ^ n * (16 * S) ^ g < 2 ^ s ∧ 16 * (R ^ n * (16 * S) ^ g * S) < 2 ^ s := by
 have a := z.b2 n h
 have s1 : 1 ≤ S := Nat.le_trans z.E0 z.S0
 have m1 := z.M0
 have h0 : R ^ n * (16 * S) ^ g * S ≤ R ^ n * (16 * S) ^ (g + 1) := by
  rw [Nat.pow_succ, ← Nat.mul_assoc]
  exact Nat.mul_le_mul (Nat.le_refl _) (by omega)
 have h1 : R ^ n * (16 * S) ^ g ≤ R ^ n * (16 * S) ^ g * S := Nat.le_mul_of_pos_right _ s1
 obtain ⟨Y, hY⟩ : ∃ Y, R ^ n * (16 * S) ^ (g + 1) = Y := ⟨_, rfl⟩
 obtain ⟨Z, hZ⟩ : ∃ Z, R ^ n * (16 * S) ^ g = Z := ⟨_, rfl⟩
 rw [hY] at a h0
 rw [hZ] at h0 h1 ⊢
 have k1 : 16 * Y ≤ M * (16 * Y) := Nat.le_mul_of_pos_left _ m1
 have k2 : M * (16 * Y) ≤ (l + 1) * (M * (16 * Y)) := Nat.le_mul_of_pos_left _ (Nat.succ_pos l)
 have k3 : M * Z ≤ M * (16 * Y) := Nat.mul_le_mul (Nat.le_refl _) (by omega)
 have k4 : l * (M * Z) ≤ (l + 1) * (M * (16 * Y)) := Nat.mul_le_mul (by omega) k3
 refine ⟨by omega, by omega, by omega, ?_⟩
 have : 16 * (Z * S) ≤ 16 * Y := Nat.mul_le_mul (Nat.le_refl _) h0
 omega
theorem FaB.xacc (z : FaB g l D M E S P R s many F xs) {q : List Int} (q0 : ∀ a ∈ q, 0 ≤ a) (q1 : q.sum ≤ g) : ∀ n, n < many → fb (P ^ n * E ^ g) (R ^ n * (16 * S) ^ g) (mSer q xs one0 n) :=
 mSer_gr (g := g) (t := 0) (f := one0) z.m16 z.P0 z.E0 z.S0 z.gx (one0_gr z.P0) q0 (by omega)
theorem FaB.acc (z : FaB g l D M E S P R s many F xs) {x : FRow} (hx : x ∈ F) {i : Nat} {a : Int} (ha : x.1[i]? = some a) {k : Nat} (hk : (k : Int) ≤ a) : ∀ n, n < many → fb (P ^ n * E ^ g) (R ^ n * (16 * S) ^ g) (mSer (x.1.take i ++ [(k : Int)]) xs one0 n) := by
 obtain ⟨p1, p2, p3⟩ := z.pw x hx
 refine z.xacc (fun b hb => ?_) ?_
 · rcases List.mem_append.mp hb with hb | hb
   · exact p2 b (List.mem_of_mem_take hb)
   · rw [List.mem_singleton.mp hb]; omega
 · have := sum_take p2 ha
   rw [List.sum_append]
   simp only [List.sum_cons, List.sum_nil]
   omega
theorem FaB.part (z : FaB g l D M E S P R s many F xs) {f y : Nat → Rat} (hf : ∀ n, n < many → fb (P ^ n * E ^ g) (R ^ n * (16 * S) ^ g) (f n)) (hy : y ∈ xs) {n j : Nat} (hn : n < many) (hj : j ≤ n) : sz s (pT (tl f many) (tl y many) n j) := by
 rw [pT_sum]
 have m16 := z.m16
 have e : ∀ i, i < j → fb (P ^ n * E ^ g * E) (R ^ n * (16 * S) ^ g * S) ((tl f many).getD i 0 * (tl y many).getD (n - i) 0) := fun i hi => by
  rw [tl_get (by omega), tl_get (by omega)]
  have := (hf i (by omega)).mul (z.gx y hy (n - i) (by omega))
  have e1 : P ^ n = P ^ i * P ^ (n - i) := by rw [← Nat.pow_add, show i + (n - i) = n by omega]
  have e2 : R ^ n = R ^ i * R ^ (n - i) := by rw [← Nat.pow_add, show i + (n - i) = n by omega]
  refine this.cast ?_ ?_
  · rw [e1]; grind
  · rw [e2]; grind
 have d0 : 0 < P ^ n * E ^ g * E := Nat.mul_pos (Nat.mul_pos (Nat.pow_pos z.P0) (Nat.pow_pos z.E0)) z.E0
 refine (fb.sum d0 j e).sz (z.lo hn).2.2 ?_
 have := (z.hi hn).2.2.2
 have : j * (R ^ n * (16 * S) ^ g * S) ≤ 16 * (R ^ n * (16 * S) ^ g * S) := Nat.mul_le_mul (by omega) (Nat.le_refl _)
 omega
theorem FaB.row (z : FaB g l D M E S P R s many F xs) {x : FRow} (hx : x ∈ F) {n : Nat} (h : n < many) : sz s x.2 ∧ sz s (mSer x.1 xs one0 n) ∧ sz s (x.2 * mSer x.1 xs one0 n) := by
 obtain ⟨p1, p2, p3⟩ := z.pw x hx
 have a := z.xacc p2 p3 n h
 obtain ⟨l1, l2, _⟩ := z.lo h
 obtain ⟨h1, h2, h3, _⟩ := z.hi h
 have pe : 0 < P ^ n * E ^ g := Nat.mul_pos (Nat.pow_pos z.P0) (Nat.pow_pos z.E0)
 refine ⟨?_, a.sz l2 h3, ((z.cf x hx).mul a).sz l1 h2⟩
 obtain ⟨l1', _, _⟩ := z.lo z.m0
 obtain ⟨_, h2', _, _⟩ := z.hi z.m0
 have e0 : 0 < P ^ 0 * E ^ g := Nat.mul_pos (Nat.pow_pos z.P0) (Nat.pow_pos z.E0)
 have r0 : 0 < R ^ 0 * (16 * S) ^ g := Nat.mul_pos (by simp) (Nat.pow_pos (by have := Nat.le_trans z.E0 z.S0; omega))
 refine (z.cf x hx).sz ?_ ?_
 · exact Nat.lt_of_le_of_lt (Nat.le_mul_of_pos_right _ e0) l1'
 · exact Nat.lt_of_le_of_lt (Nat.le_mul_of_pos_right _ r0) h2'
theorem FaB.sums (z : FaB g l D M E S P R s many F xs) {i n : Nat} (hi : i ≤ F.length) (h : n < many) : sz s (foS (F.take i) xs n) := by
 have pe : 0 < P ^ n * E ^ g := Nat.mul_pos (Nat.pow_pos z.P0) (Nat.pow_pos z.E0)
 have := fb_wS (φ := fun p => mSer p xs one0 n) z.D0 pe z.cf (fun x hx => z.xacc (z.pw x hx).2.1 (z.pw x hx).2.2 n h) i hi
 have ll := z.len
 exact this.sz (z.lo h).1 (Nat.lt_of_le_of_lt (Nat.mul_le_mul (by omega) (Nat.le_refl _)) (z.hi h).1)
end
structure SysZ (g l C M E S s many : Nat) (Fs : List (List FRow)) (st : List Rat) : Prop where
 B : SysB g l C M E S Fs st
 m16 : many ≤ 16
 M0 : 0 < M
 g1 : g ≤ 100
 n1 : Fs.length ≤ 500
 l1 : l ≤ 500
 s0 : 0 < s
 s1 : s ≤ 2900
 b1 : ∀ n, n < many → C * (sysP g C E ^ n * E ^ (g + 1)) < 2 ^ s
 b2 : ∀ n, n < many → (l + 1) * (M * (16 * (sysR g l M S ^ n * (16 * S) ^ (g + 1)))) < 2 ^ s
theorem SysZ.fa {g l C M E S s many : Nat} {Fs : List (List FRow)} {st : List Rat} (z : SysZ g l C M E S s many Fs st) {X : Nat → Nat → Rat} (hX : Sys Fs st X) {k : Nat} (k0 : 0 < k) (hk : k ≤ many) {F : List FRow} (hF : F ∈ Fs) : FaB g l C M E S (sysP g C E) (sysR g l M S) s k F ((List.range Fs.length).map X) where
 m0 := k0
 m16 := Nat.le_trans hk z.m16
 P0 := Nat.mul_pos (Nat.mul_pos (by decide) z.B.D0) (Nat.pow_pos z.B.E0)
 D0 := z.B.D0
 E0 := z.B.E0
 M0 := z.M0
 S0 := z.B.S0
 pw := by rw [List.length_map, List.length_range]; exact z.B.pw F hF
 len := z.B.len F hF
 cf := z.B.cf F hF
 gx := fun x hx n hn => by
  obtain ⟨i, hi, rfl⟩ := List.mem_map.mp hx
  exact z.B.gr hX many z.m16 n (by omega) i (List.mem_range.mp hi)
 g1 := z.g1
 n1 := by rw [List.length_map, List.length_range]; exact z.n1
 l1 := z.l1
 s0 := z.s0
 s1 := z.s1
 b1 := fun n hn => z.b1 n (by omega)
 b2 := fun n hn => z.b2 n (by omega)
section
variable {g l C M E S P R s many : Nat} {F : List FRow} {xs : List (Nat → Rat)}
end
theorem wS_congr {φ ψ : List Int → Rat} : ∀ {F : List FRow}, (∀ x ∈ F, φ x.1 = ψ x.1) → wS φ F = wS ψ F
 | [], _ => rfl
 | x :: F, h => by
  show x.2 * φ x.1 + wS φ F = x.2 * ψ x.1 + wS ψ F
  rw [h x List.mem_cons_self, wS_congr fun y hy => h y (List.mem_cons_of_mem _ hy)]
end Ow
namespace Ow
open PySem PySem.Spec PySem.SeqAt PyProof.Rows L2
def onceP (p : List Int) (k : Nat) (a : Int) : List Int := p.take k ++ [a - 1] ++ p.drop (k + 1)
theorem onceP_set {p : List Int} {k : Nat} (h : k < p.length) (a : Int) : onceP p k a = p.set k (a - 1) := by
 unfold onceP
 apply List.ext_getElem
 · simp only [List.length_append, List.length_take, List.length_drop, List.length_set, List.length_cons, List.length_nil]; omega
 · intro i h1 h2
   rw [List.getElem_set]
   by_cases e : k = i
   · subst e
     rw [if_pos rfl, List.getElem_append_left (by simp; omega), List.getElem_append_right (by simp; omega)]
     simp [Nat.min_eq_left (Nat.le_of_lt h)]
   · rw [if_neg e]
     by_cases lt : i < k
     · rw [List.getElem_append_left (by simp; omega), List.getElem_append_left (by simp; omega), List.getElem_take]
     · rw [List.getElem_append_right (by simp; omega), List.getElem_drop]
       simp only [List.length_append, List.length_take, List.length_cons, List.length_nil]
       congr 1
       omega
theorem onceP_len {p : List Int} {k : Nat} (h : k < p.length) (a : Int) : (onceP p k a).length = p.length := by rw [onceP_set h, List.length_set]
theorem sum_put : ∀ {p : List Int} {k : Nat} (x : Int), k < p.length → (p.set k x).sum = p.sum - p.getD k 0 + x
 | [], _, _, h => absurd h (by simp)
 | a :: p, 0, x, _ => by simp; omega
 | a :: p, k + 1, x, h => by
  have := sum_put (p := p) (k := k) x (by simpa using h)
  simp only [List.set_cons_succ, List.sum_cons, this, List.getD_cons_succ]
  omega
theorem Pw.once {n g k : Nat} {p : List Int} {a : Int} (h : Pw n (g + 1) p) (hk : p[k]? = some a) (ha : 0 < a) : Pw n g (onceP p k a) := by
 have hl := (List.getElem?_eq_some_iff.mp hk).1
 have ea : p.getD k 0 = a := by rw [List.getD_eq_getElem?_getD, hk]; rfl
 refine ⟨by rw [onceP_len hl]; exact h.1, ?_, ?_⟩
 · rw [onceP_set hl]
   intro b hb
   rcases List.mem_or_eq_of_mem_set hb with hb | hb
   · exact h.2.1 b hb
   · omega
 · rw [onceP_set hl, sum_put _ hl, ea]
   have := h.2.2
   omega
theorem wS_mul2 (φ : List Int → Rat) (G : List FRow) : ∀ F : List FRow, wS φ (mulR F G) = wS (fun q => wS (fun r => φ (addP q r)) G) F
 | [] => rfl
 | x :: F => by
  have e : mulR (x :: F) G = mulRow x G ++ mulR F G := by unfold mulR; rw [List.flatMap_cons]
  rw [e, wS_append, wS_mul2 φ G F]
  show _ = x.2 * wS (fun r => φ (addP x.1 r)) G + _
  have : ∀ G : List FRow, wS φ (mulRow x G) = x.2 * wS (fun r => φ (addP x.1 r)) G := by
   intro G
   induction G with
   | nil => exact (Rat.mul_zero _).symm
   | cons y G ih =>
    show x.2 * y.2 * φ (addP x.1 y.1) + wS φ (mulRow x G) = x.2 * (y.2 * φ (addP x.1 y.1) + wS (fun r => φ (addP x.1 r)) G)
    rw [ih, Rat.mul_add, Rat.mul_assoc]
  rw [this]
noncomputable def slRow (S : Nat → List FRow) (x : FRow) : List FRow := (List.range x.1.length).flatMap fun k => if 0 < x.1.getD k 0 then gat (mulR [(onceP x.1 k (x.1.getD k 0), x.2 * ((x.1.getD k 0 : Int) : Rat))] (S k)) else []
noncomputable def slRaw (S : Nat → List FRow) (F : List FRow) : List FRow := F.flatMap (slRow S)
noncomputable def slO (S : Nat → List FRow) (F : List FRow) : List FRow := gat (slRaw S F)
def Dk (S : Nat → List FRow) (ψ : List Int → Rat) (q : List Int) : Rat := sumF (fun k => ((q.getD k 0 : Int) : Rat) * wS (fun r => ψ (addP (onceP q k (q.getD k 0)) r)) (S k)) q.length
theorem wS_slRow {S : Nat → List FRow} (ψ : List Int → Rat) {x : FRow} (h : ∀ a ∈ x.1, 0 ≤ a) : wS ψ (slRow S x) = x.2 * Dk S ψ x.1 := by
 unfold slRow Dk
 have : ∀ n, n ≤ x.1.length → wS ψ ((List.range n).flatMap fun k => if 0 < x.1.getD k 0 then gat (mulR [(onceP x.1 k (x.1.getD k 0), x.2 * ((x.1.getD k 0 : Int) : Rat))] (S k)) else []) = x.2 * sumF (fun k => ((x.1.getD k 0 : Int) : Rat) * wS (fun r => ψ (addP (onceP x.1 k (x.1.getD k 0)) r)) (S k)) n := by
  intro n
  induction n with
  | zero => intro _; exact (Rat.mul_zero _).symm
  | succ n ih =>
   intro hn
   rw [List.range_succ, List.flatMap_append, wS_append, ih (by omega), List.flatMap_cons, List.flatMap_nil, List.append_nil]
   show _ = x.2 * (sumF _ n + _)
   rw [Rat.mul_add]
   congr 1
   by_cases ha : 0 < x.1.getD n 0
   · rw [if_pos ha, wS_gat, wS_mul2]
     show x.2 * ((x.1.getD n 0 : Int) : Rat) * wS (fun r => ψ (addP (onceP x.1 n (x.1.getD n 0)) r)) (S n) + 0 = _
     grind
   · have h0 : x.1.getD n 0 = 0 := by
      have : 0 ≤ x.1.getD n 0 := by
       rw [List.getD_eq_getElem?_getD, List.getElem?_eq_getElem (show n < x.1.length by omega)]
       exact h _ (List.getElem_mem _)
      omega
     rw [if_neg ha]
     show (0 : Rat) = x.2 * (((x.1.getD n 0 : Int) : Rat) * _)
     rw [h0, show ((0 : Int) : Rat) = 0 from rfl, Rat.zero_mul, Rat.mul_zero]
 exact this _ (Nat.le_refl _)
theorem wS_slRaw {S : Nat → List FRow} (ψ : List Int → Rat) : ∀ {F : List FRow}, (∀ x ∈ F, ∀ a ∈ x.1, 0 ≤ a) → wS ψ (slRaw S F) = wS (Dk S ψ) F
 | [], _ => rfl
 | x :: F, h => by
  have e : slRaw S (x :: F) = slRow S x ++ slRaw S F := by unfold slRaw; rw [List.flatMap_cons]
  rw [e, wS_append, wS_slRow ψ (h x List.mem_cons_self), wS_slRaw ψ fun y hy => h y (List.mem_cons_of_mem _ hy)]
  rfl
theorem fbF.app {d M : Nat} {F G : List FRow} (h : fbF d M F) (h2 : fbF d M G) : fbF d M (F ++ G) := fun x hx => (List.mem_append.mp hx).elim (h x) (h2 x)
theorem fbF.mono {d M N : Nat} {F : List FRow} (h : fbF d M F) (hM : M ≤ N) : fbF d N F := fun x hx => (h x hx).mono hM
theorem fbF.lift {d M : Nat} (e : Nat) {F : List FRow} (h : fbF d M F) (he : 0 < e) : fbF (d * e) (M * e) F := fun x hx => (h x hx).lift e he
end Ow
namespace Ow
open PySem PySem.Spec PySem.SeqAt PyProof.Rows L2
end Ow
namespace Ow
open PySem PySem.Spec PySem.SeqAt PyProof.Rows L2
section
variable {n h : Nat} {xs : List (Nat → Rat)} {S : Nat → List FRow}
end
end Ow
namespace Ow
open PySem PySem.Spec PySem.SeqAt PyProof.Rows L2
end Ow
namespace Ow
open PySem PySem.Spec PySem.SeqAt PyProof.Rows L2
inductive Fl where
 | start (i : Nat) (q : Rat)
 | gear (i : Nat) (q : Rat)
 | slip (i : Nat) (q : Rat)
 deriving DecidableEq
def Fl.word : Fl → Str
 | .start _ _ => "start"
 | .gear _ _ => "gear"
 | .slip _ _ => "slip"
def Fl.at : Fl → Nat
 | .start i _ => i
 | .gear i _ => i
 | .slip i _ => i
def Fl.num : Fl → Rat
 | .start _ q => q
 | .gear _ q => q
 | .slip _ q => q
def MRow.putS (q : Rat) : MRow → MRow
 | .source _ => .source q
 | .gear _ r k => .gear q r k
 | .adder _ a b => .adder q a b
 | .disc _ w k => .disc q w k
def MRow.putG (q : Rat) : MRow → MRow
 | .gear s _ k => .gear s q k
 | r => r
def flM (m : List MRow) : Fl → List MRow
 | .start i q => m.set i ((m.getD i default).putS q)
 | .gear i q => m.set i ((m.getD i default).putG q)
 | .slip i q => m.set i (.gear (m.getD i default).st q m.length) ++ [.disc 0 (m.getD i default).mid (m.getD i default).last]
theorem Mach.put {m : List MRow} (h : Mach m) {i : Nat} (hi : i < m.length) {r : MRow} (hd : r.drv = (m.getD i default).drv) (hs : r.isSrc = (m.getD i default).isSrc) (ht : ∀ t, (m.getD i default) = .source t → ∃ t', r = .source t') (hw : ∀ s w k, r = .disc s w k → ∃ s', m.getD i default = .disc s' w k) : Mach (m.set i r) := by
 have at' : ∀ (j : Nat) (x : MRow), (m.set i r)[j]? = some x → (j = i ∧ x = r) ∨ (j ≠ i ∧ m[j]? = some x) := fun j x e => by
  rw [List.getElem?_set] at e
  split at e
  · rename_i ej
    subst ej
    first
     | (cases e; exact .inl ⟨rfl, rfl⟩)
     | (rw [if_pos hi] at e; cases e; exact .inl ⟨rfl, rfl⟩)
  · rename_i ej
    exact .inr ⟨fun z => ej z.symm, e⟩
 have hm := h.at hi
 refine ⟨by rw [List.length_set]; exact h.pos, ?_, ?_, ?_⟩
 · obtain ⟨s, t, e1, e2⟩ := h.src
   by_cases e : s = i
   · subst e
     rw [hm] at e1
     obtain ⟨t', rfl⟩ := ht t (Option.some.inj e1)
     refine ⟨s, t', List.getElem?_set_self hi, fun j x hj hx => ?_⟩
     rcases at' j x hj with ⟨rfl, rfl⟩ | ⟨ne, hj⟩
     · rfl
     · exact e2 j x hj hx
   · refine ⟨s, t, by rw [List.getElem?_set_ne (fun z => e z.symm)]; exact e1, fun j x hj hx => ?_⟩
     rcases at' j x hj with ⟨rfl, rfl⟩ | ⟨ne, hj⟩
     · exact e2 j _ hm (by rw [← hs]; exact hx)
     · exact e2 j x hj hx
 · obtain ⟨rk, hrk⟩ := h.rk
   refine ⟨rk, fun j x hj d hd' => ?_⟩
   rw [List.length_set]
   rcases at' j x hj with ⟨rfl, rfl⟩ | ⟨ne, hj⟩
   · exact hrk j _ hm d (by rw [← hd]; exact hd')
   · exact hrk j x hj d hd'
 · intro j s w k hj
   rw [List.length_set]
   rcases at' j _ hj with ⟨rfl, e⟩ | ⟨ne, hj⟩
   · obtain ⟨s', e'⟩ := hw s w k e.symm
     exact h.whl j s' w k (by rw [hm, e'])
   · exact h.whl j s w k hj
structure Walk (m : List MRow) (sl : Int) (q : Rat) (T : Nat → Nat → Rat) : Prop where
 zero : ∀ i, i < m.length → T i 0 = (m.getD i default).st
 step : ∀ (i k : Nat), i < m.length → 0 < k → T i k = if (i : Int) = sl then q * rowF (m.getD i default) T k else rowF (m.getD i default) T k
theorem Turn.walk {m : List MRow} {T : Nat → Nat → Rat} (h : Turn m T) (q : Rat) : Walk m (-1) q T := ⟨h.zero, fun i k hi hk => by rw [if_neg (by omega)]; exact h.step i k hi hk⟩
theorem Turn.slip {m : List MRow} (hm : Mach m) {i : Nat} (hi : i < m.length) {s q : Rat} {w k : Nat} (e : m.getD i default = .disc s w k) {T : Nat → Nat → Rat} (h : Turn (flM m (.slip i q)) T) : Walk m i q T ∧ ∀ t, 0 < t → T m.length t = rowF (m.getD i default) T t := by
 have ll : (flM m (.slip i q)).length = m.length + 1 := by simp [flM]
 have ed : flM m (.slip i q) = m.set i (.gear s q m.length) ++ [.disc 0 w k] := by
  show m.set i (.gear (m.getD i default).st q m.length) ++ [.disc 0 (m.getD i default).mid (m.getD i default).last] = _
  rw [e]; rfl
 have gi : (flM m (.slip i q)).getD i default = .gear s q m.length := by
  rw [ed, List.getD_eq_getElem?_getD, List.getElem?_append_left (by rw [List.length_set]; exact hi), List.getElem?_set_self hi]; rfl
 have gn : (flM m (.slip i q)).getD m.length default = .disc 0 w k := by
  rw [ed, List.getD_eq_getElem?_getD, List.getElem?_append_right (by rw [List.length_set]; omega), List.length_set, Nat.sub_self]; rfl
 have go : ∀ j, j < m.length → j ≠ i → (flM m (.slip i q)).getD j default = m.getD j default := fun j hj ne => by
  rw [ed, List.getD_eq_getElem?_getD, List.getElem?_append_left (by rw [List.length_set]; exact hj), List.getElem?_set_ne ne.symm, List.getD_eq_getElem?_getD]
 have hn : ∀ t, 0 < t → T m.length t = rowF (m.getD i default) T t := fun t ht => by
  rw [h.step m.length t (by rw [ll]; omega) ht, gn, e]
  rfl
 refine ⟨⟨fun j hj => ?_, fun j t hj ht => ?_⟩, hn⟩
 · rw [h.zero j (by rw [ll]; omega)]
   by_cases ne : j = i
   · subst ne; rw [gi, e]; rfl
   · rw [go j hj ne]
 · rw [h.step j t (by rw [ll]; omega) ht]
   by_cases ne : j = i
   · subst ne
     rw [gi, if_pos rfl]
     show q * T m.length t = _
     rw [hn t ht]
   · rw [go j hj ne, if_neg (by omega)]
end Ow
namespace Ow
open PySem PySem.Spec PySem.SeqAt PyProof.Rows L2
def nP (N : Nat) (r : Rat) : Prop := r.num.natAbs ≤ N ∧ r.den ≤ N
theorem nP.mono {N M : Nat} {r : Rat} (h : nP N r) (hm : N ≤ M) : nP M r := ⟨Nat.le_trans h.1 hm, Nat.le_trans h.2 hm⟩
theorem nP.sz {N n : Nat} {r : Rat} (h : nP N r) (hn : N < 2 ^ n) : Ow.sz n r := ⟨Nat.lt_of_le_of_lt h.1 hn, Nat.lt_of_le_of_lt h.2 hn⟩
end Ow
namespace Ow
open PySem PySem.Spec PySem.SeqAt PyProof.Rows L2
end Ow
namespace Ow
open PySem PySem.Spec PySem.SeqAt PyProof.Rows L2
theorem nodup_len {α : Type} [DecidableEq α] : ∀ {l k : List α}, l.Nodup → (∀ x ∈ l, x ∈ k) → l.length ≤ k.length
 | [], _, _, _ => Nat.zero_le _
 | x :: l, k, hn, hs => by
  obtain ⟨h1, h2⟩ := List.nodup_cons.mp hn
  have hx : x ∈ k := hs x List.mem_cons_self
  have ih := nodup_len (l := l) (k := k.erase x) h2 fun y hy => (List.mem_erase_of_ne (fun (e : y = x) => h1 (e ▸ hy))).2 (hs y (List.mem_cons_of_mem _ hy))
  have e := List.length_erase_of_mem hx
  have hp : 0 < k.length := List.length_pos_of_mem hx
  rw [List.length_cons]
  omega
end Ow
namespace Ow
open PySem PySem.Spec PySem.SeqAt PyProof.Rows L2
section
variable {σ : List D}
end
end Ow
namespace Ow
open PySem PySem.Spec PySem.SeqAt PyProof.Rows L2
structure Wd (m : List MRow) : Prop where
 pos : 0 < m.length
 src : ∃ (s : Nat) (t : Rat), m[s]? = some (MRow.source t) ∧ ∀ (i : Nat) (r : MRow), m[i]? = some r → r.isSrc = true → i = s
 rng : ∀ (i : Nat) (r : MRow), m[i]? = some r → ∀ d ∈ r.drv, d < m.length
 whl : ∀ (i : Nat) (s : Rat) (w k : Nat), m[i]? = some (MRow.disc s w k) → w < m.length
theorem Wd.at {m : List MRow} (h : Wd m) {i : Nat} (hi : i < m.length) : m[i]? = some (m.getD i default) := by
 rw [List.getD_eq_getElem?_getD, List.getElem?_eq_getElem hi]; rfl
inductive Der (m : List MRow) : Nat → Prop
 | mk (i : Nat) (hi : i < m.length) (h : ∀ d ∈ drvs m i, Der m d) : Der m i
theorem Der.lt {m : List MRow} {i : Nat} (h : Der m i) : i < m.length := by cases h with | mk _ hi _ => exact hi
theorem Der.drv {m : List MRow} {i : Nat} (h : Der m i) : ∀ d ∈ drvs m i, Der m d := by cases h with | mk _ _ q => exact q
end Ow
namespace Ow
open PySem PySem.Spec PySem.SeqAt PyProof.Rows L2
section
variable {σ : List D}
end
structure Core where
 rows : List MRow
 stood : Nat → Rat
 sums : Nat → Rat
 outs : Nat → Bool
 lims : Nat → Option Rat × Option Rat
section
variable (c : Core) (p : List D)
end
def mvF (r : MRow) (S M : Nat → Rat) (q : Rat) : Rat := match r with
 | .source _ => q
 | .gear _ k d => k * M d
 | .adder _ a b => M a + M b
 | .disc _ w d => S w * M d
def longB (r : Rat) : Bool := decide (10 ^ 60 ≤ r.num.natAbs) || decide (10 ^ 60 ≤ r.den)
def aboveB (a b : Rat) : Bool := decide (b.num * (a.den : Int) < a.num * (b.den : Int))
def beyondB (l : Option Rat × Option Rat) (x : Rat) : Bool := (match l.1 with
 | none => false
 | some a => aboveB a x) || (match l.2 with
 | none => false
 | some b => aboveB x b)
def Core.clicked (c : Core) (μ : Nat → Rat) : Core := { c with stood := fun i => c.stood i + μ i, sums := fun i => c.sums i + μ i }
end Ow
namespace Ow
open PySem PySem.Spec PySem.SeqAt PyProof.Rows L2
section
variable {σ : List D}
end
end Ow
namespace Ow
open PySem PySem.Spec PySem.SeqAt PyProof.Rows L2
section
variable {m : List MRow} {p : List Nat} {n : Nat}
theorem Wd.put (h : Wd m) {i : Nat} (hi : i < m.length) {r : MRow} (hs : r.isSrc = false) (hs0 : (m.getD i default).isSrc = false) (hd : ∀ d ∈ r.drv, d < m.length) (hw : ∀ s w k, r = .disc s w k → w < m.length) : Wd (m.set i r) := by
 have at_ : ∀ {j : Nat} {q : MRow}, (m.set i r)[j]? = some q → (j = i ∧ q = r) ∨ (j ≠ i ∧ m[j]? = some q) := fun {j q} e => by
  by_cases z : i = j
  · subst z
    rw [List.getElem?_set_self hi] at e
    exact .inl ⟨rfl, (Option.some.inj e).symm⟩
  · rw [List.getElem?_set_ne z] at e
    exact .inr ⟨Ne.symm z, e⟩
 refine ⟨by rw [List.length_set]; exact h.pos, ?_, fun j q e d hdq => ?_, fun j s w k e => ?_⟩
 · obtain ⟨s, t, e, u⟩ := h.src
   have ne : i ≠ s := fun z => by
    subst z
    have : m.getD i default = .source t := by rw [List.getD_eq_getElem?_getD, e]; rfl
    rw [this] at hs0; cases hs0
   refine ⟨s, t, by rw [List.getElem?_set_ne ne]; exact e, fun j q e2 hq => ?_⟩
   rcases at_ e2 with ⟨_, rfl⟩ | ⟨_, e3⟩
   · rw [hs] at hq; cases hq
   · exact u j q e3 hq
 · rw [List.length_set]
   rcases at_ e with ⟨_, rfl⟩ | ⟨_, e3⟩
   · exact hd d hdq
   · exact h.rng j q e3 d hdq
 · rw [List.length_set]
   rcases at_ e with ⟨_, e3⟩ | ⟨_, e3⟩
   · exact hw s w k e3.symm
   · exact h.whl j s w k e3
end
end Ow
namespace Ow
open PySem PySem.Spec PySem.SeqAt PyProof.Rows L2
theorem Wd.one {m : List MRow} (h : Wd m) : (m.filter MRow.isSrc).length = 1 := by
 obtain ⟨s, t, hs, hu⟩ := h.src
 exact one_such MRow.isSrc m s ⟨_, hs, rfl⟩ hu
end Ow
namespace Ow
open PySem PySem.Spec PySem.SeqAt PyProof.Rows L2
def zd (n d : Nat) (r : Rat) : Prop := r.num.natAbs < 2 ^ n ∧ r.den < 2 ^ d
theorem sz.zd {n : Nat} {r : Rat} (h : sz n r) : zd n n r := h
theorem zd.mono {n d n' d' : Nat} {r : Rat} (h : zd n d r) (h1 : n ≤ n') (h2 : d ≤ d') : zd n' d' r := ⟨Nat.lt_of_lt_of_le h.1 (Nat.pow_le_pow_right (by omega) h1), Nat.lt_of_lt_of_le h.2 (Nat.pow_le_pow_right (by omega) h2)⟩
theorem fb.le {d M : Nat} {r : Rat} (h : fb d M r) : r.den ≤ d ∧ r.num.natAbs ≤ M := by
 obtain ⟨h1, z, e, hz⟩ := h
 have hd : ((d : Int) : Rat) ≠ 0 := fun q => by
  have : (d : Int) = 0 := Rat.intCast_inj.mp (by rw [q]; rfl)
  omega
 have er : r = Rat.divInt z d := by
  rw [Rat.divInt_eq_div, ← e]
  grind
 obtain ⟨a, b⟩ := den_le' z d (by omega)
 rw [er]
 exact ⟨by rw [Int.natAbs_natCast] at a; exact a, Nat.le_trans b hz⟩
structure Moves (c : Core) (q : Rat) (μ : Nat → Rat) : Prop where
 of_ : ∀ i, i < c.rows.length → μ i = if c.outs i = true then 0 else mvF (c.rows.getD i default) c.stood μ q
def gF (m : List MRow) (S : Nat → Rat) (i : Nat) : Nat := match m.getD i default with
 | .gear _ k _ => k.den
 | .disc _ w _ => (S w).den
 | _ => 1
def pG (m : List MRow) (S : Nat → Rat) : List Nat → Nat
 | [] => 1
 | i :: l => gF m S i * pG m S l
theorem gF_pos (m : List MRow) (S : Nat → Rat) (i : Nat) : 0 < gF m S i := by
 unfold gF
 cases m.getD i default with
 | gear s k d => exact k.den_pos
 | disc s w d => exact Rat.den_pos _
 | _ => exact Nat.one_pos
theorem pG_pos (m : List MRow) (S : Nat → Rat) : ∀ l, 0 < pG m S l
 | [] => Nat.one_pos
 | i :: l => Nat.mul_pos (gF_pos m S i) (pG_pos m S l)
theorem pG_app (m : List MRow) (S : Nat → Rat) (i : Nat) : ∀ l, pG m S (l ++ [i]) = pG m S l * gF m S i
 | [] => by show gF m S i * 1 = 1 * gF m S i; omega
 | j :: l => by
  show gF m S j * pG m S (l ++ [i]) = gF m S j * pG m S l * gF m S i
  rw [pG_app m S i l, Nat.mul_assoc]
theorem pG_lt {m : List MRow} {S : Nat → Rat} {e : Nat} : ∀ (l : List Nat), (∀ i ∈ l, gF m S i < 2 ^ e) → pG m S l ≤ 2 ^ (e * l.length)
 | [], _ => by simp [pG]
 | i :: l, h => by
  have h1 := h i List.mem_cons_self
  have h2 := pG_lt l fun x hx => h x (List.mem_cons_of_mem _ hx)
  show gF m S i * pG m S l ≤ _
  rw [List.length_cons, Nat.mul_succ, Nat.add_comm, Nat.pow_add]
  exact Nat.mul_le_mul (Nat.le_of_lt h1) h2
theorem mv_bound {c : Core} (hm : Mach c.rows) {q : Rat} {μ : Nat → Rat} (hμ : Moves c q μ) (hk : ∀ r ∈ c.rows, ∀ x ∈ r.nums, sz 200 x) (hS : ∀ i, i < c.rows.length → sz 200 (c.stood i)) : ∀ j, j ≤ c.rows.length → ∀ d ∈ ordN c.rows j, fb (q.den * pG c.rows c.stood (ordN c.rows j)) (q.num.natAbs * pG c.rows c.stood (ordN c.rows j) * (2 ^ 200) ^ j) (μ d) := by
 intro j
 induction j with
 | zero => intro _ d hd; cases hd
 | succ j ih =>
  intro hj d hd
  obtain ⟨o1, o2, o3⟩ := ordN_ok hm j (by omega)
  obtain ⟨a, l, hc⟩ := List.exists_cons_of_ne_nil (rdy_some hm o2 o3 (by omega))
  have ho : ordN c.rows (j + 1) = ordN c.rows j ++ [a] := by
   show ordN c.rows j ++ _ = _
   rw [hc]; rfl
  have ha : a ∈ rdy c.rows (ordN c.rows j) := by rw [hc]; simp
  obtain ⟨ha1, ha2, ha3⟩ := mem_rdy.mp ha
  have ih := ih (by omega)
  rw [ho, pG_app]
  obtain ⟨P, hP⟩ : ∃ P, P = pG c.rows c.stood (ordN c.rows j) := ⟨_, rfl⟩
  obtain ⟨g, hg⟩ : ∃ g, g = gF c.rows c.stood a := ⟨_, rfl⟩
  have hPp : 0 < P := hP ▸ pG_pos _ _ _
  have hgp : 0 < g := hg ▸ gF_pos _ _ _
  rw [← hP] at ih ⊢
  rw [← hg]
  have hQ := q.den_pos
  rw [Nat.pow_succ]
  obtain ⟨V, hV⟩ : ∃ V : Nat, V = (2 ^ 200) ^ j := ⟨_, rfl⟩
  have hVp : 0 < V := hV ▸ Nat.pow_pos (Nat.pow_pos (by decide))
  rw [← hV] at ih ⊢
  obtain ⟨W, hW⟩ : ∃ W : Nat, W = 2 ^ 200 := ⟨_, rfl⟩
  have hW2 : 2 ≤ W := by rw [hW]; decide
  rw [← hW]
  have up : ∀ {M : Nat} {x : Rat}, fb (q.den * P) M x → M * g ≤ q.num.natAbs * (P * g) * (V * W) → fb (q.den * (P * g)) (q.num.natAbs * (P * g) * (V * W)) x := fun {M x} h hM => by
   have := (h.lift g hgp).mono hM
   rwa [Nat.mul_assoc] at this
  rw [ho] at hd
  rcases List.mem_append.mp hd with h | h
  · refine up (ih d h) ?_
    calc q.num.natAbs * P * V * g = q.num.natAbs * (P * g) * (V * 1) := by grind
     _ ≤ q.num.natAbs * (P * g) * (V * W) := Nat.mul_le_mul_left _ (Nat.mul_le_mul_left _ (by omega))
  · have e : d = a := List.mem_singleton.mp h
    subst e
    rw [hμ.of_ d ha1]
    split
    · refine fb.mono (fb.zero (Nat.mul_pos hQ (Nat.mul_pos hPp hgp))) (Nat.zero_le _)
    · have mem := List.mem_of_getElem? (hm.at ha1)
      have hdr := ha3
      unfold drvs at hdr
      have whl := hm.whl d
      have hk := hk _ mem
      have eg : g = gF c.rows c.stood d := hg
      unfold gF at eg
      revert hdr whl hk eg
      cases hr : c.rows.getD d default with
      | source s =>
       intro _ _ _ eg
       have eg : g = 1 := eg
       show fb _ _ q
       have := (fb.self q).lift (P * g) (Nat.mul_pos hPp hgp)
       refine this.mono ?_
       calc q.num.natAbs * (P * g) = q.num.natAbs * (P * g) * 1 := by omega
        _ ≤ q.num.natAbs * (P * g) * (V * W) := Nat.mul_le_mul_left _ (Nat.mul_pos hVp (by omega))
      | gear s k x =>
       intro hdr _ hk eg
       have eg : g = k.den := eg
       have hkx := hk k (by simp [MRow.nums])
       have := (ih x (hdr x (by simp [MRow.drv]))).mul (fb.self k)
       rw [← eg, Nat.mul_assoc] at this
       show fb _ _ (k * μ x)
       rw [Rat.mul_comm]
       refine this.mono ?_
       have h1 : k.num.natAbs ≤ W := by rw [hW]; exact Nat.le_of_lt hkx.1
       calc q.num.natAbs * P * V * k.num.natAbs ≤ q.num.natAbs * P * V * W := Nat.mul_le_mul_left _ h1
        _ = q.num.natAbs * P * V * W * 1 := by omega
        _ ≤ q.num.natAbs * P * V * W * g := Nat.mul_le_mul_left _ hgp
        _ = _ := by grind
      | adder s x y =>
       intro hdr _ _ eg
       have eg : g = 1 := eg
       have := (ih x (hdr x (by simp [MRow.drv]))).add (ih y (hdr y (by simp [MRow.drv])))
       show fb _ _ (μ x + μ y)
       refine up this ?_
       calc (q.num.natAbs * P * V + q.num.natAbs * P * V) * g = q.num.natAbs * (P * g) * (V * 2) := by grind
        _ ≤ q.num.natAbs * (P * g) * (V * W) := Nat.mul_le_mul_left _ (Nat.mul_le_mul_left _ hW2)
      | disc s w x =>
       intro hdr whl _ eg
       have eg : g = (c.stood w).den := eg
       have hwl := whl s w x (by rw [hm.at ha1, hr])
       have hkx := hS w hwl
       have := (ih x (hdr x (by simp [MRow.drv]))).mul (fb.self (c.stood w))
       rw [← eg, Nat.mul_assoc] at this
       show fb _ _ (c.stood w * μ x)
       rw [Rat.mul_comm]
       refine this.mono ?_
       have h1 : (c.stood w).num.natAbs ≤ W := by rw [hW]; exact Nat.le_of_lt hkx.1
       calc q.num.natAbs * P * V * (c.stood w).num.natAbs ≤ q.num.natAbs * P * V * W := Nat.mul_le_mul_left _ h1
        _ = q.num.natAbs * P * V * W * 1 := by omega
        _ ≤ q.num.natAbs * P * V * W * g := Nat.mul_le_mul_left _ hgp
        _ = _ := by grind
structure BOK (B : Nat) (c : Core) : Prop where
 mach : Mach c.rows
 len : c.rows.length ≤ 12
 nums : ∀ r ∈ c.rows, ∀ x ∈ r.nums, sz 200 x
 std : ∀ i, i < c.rows.length → sz 200 (c.stood i)
 lim : ∀ i, i < c.rows.length → ∀ a, (c.lims i).1 = some a ∨ (c.lims i).2 = some a → sz 200 a
 off : ∃ o : Nat → Rat, (∀ i, i < c.rows.length → sz B (o i)) ∧ ∀ i, i < c.rows.length → c.sums i = c.stood i - o i
theorem BOK.mv {B : Nat} {c : Core} (h : BOK B c) {q : Rat} (hq : sz 250 q) {μ : Nat → Rat} (hμ : Moves c q μ) : ∀ i, i < c.rows.length → zd 5300 2660 (μ i) := fun i hi => by
 have hm := h.mach
 have b := mv_bound hm hμ h.nums h.std c.rows.length (Nat.le_refl _) i (rdy_all hm (rdy_end hm) i hi)
 obtain ⟨o1, _, _⟩ := ordN_ok hm c.rows.length (Nat.le_refl _)
 have pl := pG_lt (m := c.rows) (S := c.stood) (e := 200) (ordN c.rows c.rows.length) fun x hx => by
  have hx := (ordN_ok hm c.rows.length (Nat.le_refl _)).2.2 x hx
  have mem := List.mem_of_getElem? (hm.at hx)
  have hk := h.nums _ mem
  have whl := hm.whl x
  unfold gF
  revert hk whl
  cases hr : c.rows.getD x default with
  | gear s k d => intro hk _; exact (hk k (by simp [MRow.nums])).2
  | disc s w d => intro _ whl; exact (h.std w (whl s w d (by rw [hm.at hx, hr]))).2
  | source s => intro _ _; show 1 < 2 ^ 200; decide
  | adder s a b => intro _ _; show 1 < 2 ^ 200; decide
 rw [o1] at pl
 have hl := h.len
 have pl : pG c.rows c.stood (ordN c.rows c.rows.length) ≤ 2 ^ 2400 := Nat.le_trans pl (Nat.pow_le_pow_right (by omega) (by omega))
 have v : (2 ^ 200) ^ c.rows.length ≤ 2 ^ 2400 := by rw [← Nat.pow_mul]; exact Nat.pow_le_pow_right (by omega) (by omega)
 obtain ⟨b1, b2⟩ := b.le
 constructor
 · refine Nat.lt_of_le_of_lt b2 (Nat.lt_of_le_of_lt (Nat.mul_le_mul (Nat.mul_le_mul (Nat.le_of_lt hq.1) pl) v) ?_)
   rw [← Nat.pow_add, ← Nat.pow_add]
   exact Nat.pow_lt_pow_right (by omega) (by omega)
 · refine Nat.lt_of_le_of_lt b1 (Nat.lt_of_le_of_lt (Nat.mul_le_mul (Nat.le_of_lt hq.2) pl) ?_)
   rw [← Nat.pow_add]
   exact Nat.pow_lt_pow_right (by omega) (by omega)
theorem BOK.sum {B : Nat} {c : Core} (h : BOK B c) {i : Nat} (hi : i < c.rows.length) : sz (200 + B + 1) (c.sums i) := by
 obtain ⟨o, h1, h2⟩ := h.off
 rw [h2 i hi]
 exact sz_sub (h.std i hi) (h1 i hi)
theorem not_long {x : Rat} (h : longB x = false) : sz 200 x := by
 unfold longB at h
 rw [Bool.or_eq_false_iff, decide_eq_false_iff_not, decide_eq_false_iff_not] at h
 have : (10 : Nat) ^ 60 ≤ 2 ^ 200 := by decide
 exact ⟨by omega, by omega⟩
theorem BOK.clicked {B : Nat} {c : Core} (h : BOK B c) {μ : Nat → Rat} (hl : ∀ i, i < c.rows.length → longB (c.stood i + μ i) = false) : BOK B (c.clicked μ) := by
 obtain ⟨o, h1, h2⟩ := h.off
 refine ⟨h.mach, h.len, h.nums, fun i hi => not_long (hl i hi), h.lim, o, h1, fun i hi => ?_⟩
 show c.sums i + μ i = c.stood i + μ i - o i
 rw [h2 i hi]
 grind
end Ow
namespace Ow
open PySem PySem.Spec PySem.SeqAt PyProof.Rows L2
section
variable {σ : List D}
end
def Core.setOut (c : Core) (i : Nat) (b : Bool) : Core := { c with outs := fun x => if x = i then b else c.outs x }
def Core.setStood (c : Core) (i : Nat) (q : Rat) : Core := { c with stood := fun x => if x = i then q else c.stood x }
def Core.setLim (c : Core) (i : Nat) (l : Option Rat × Option Rat) : Core := { c with lims := fun x => if x = i then l else c.lims x }
def Core.setRow (c : Core) (i : Nat) (r : MRow) : Core := { c with rows := c.rows.set i r }
section
variable (c : Core) (p : List D)
end
inductive Dd where
 | click (q : Rat) | out (i : Nat) | into (i : Nat) | put (i : Nat) (q : Rat) | gear (i : Nat) (q : Rat) | ends (i : Nat) (l : Option Rat × Option Rat)
def stopAt (c : Core) (μ : Nat → Rat) : Option Nat := (List.range c.rows.length).find? fun i => beyondB (c.lims i) (c.stood i + μ i)
def tooFar (c : Core) (μ : Nat → Rat) : Bool := (List.range c.rows.length).any fun i => longB (c.stood i + μ i)
def stopR (i : Nat) : D := .tup [.str "Stopped", .int i]
def refR (x : Str) : D := .tup [.str x]
def toldR (d : D) : D := .tup [.str "told", d]
def run (c : Core) (μ : Nat → Rat) : Dd → D × Option Core
 | .click _ => match stopAt c μ with
  | some i => (stopR i, none)
  | none => if tooFar c μ = true then (refR "TooFar", none) else (toldR (encS (tl μ c.rows.length)), some (c.clicked μ))
 | .out i => if c.outs i = true then (refR "Held", none) else (toldR .non, some (c.setOut i true))
 | .into i => if c.outs i = true then (toldR .non, some (c.setOut i false)) else (refR "Held", none)
 | .put i q => if c.outs i = true then (if beyondB (c.lims i) q = true then (stopR i, none) else (toldR .non, some (c.setStood i q))) else (refR "Held", none)
 | .gear i q => match c.rows.getD i default with
  | .gear s _ d => (toldR .non, some (c.setRow i (.gear s q d)))
  | _ => (refR "NoGear", none)
 | .ends i l => if beyondB l (c.stood i) = true then (stopR i, none) else (toldR .non, some (c.setLim i l))
def Dd.ok (c : Core) : Dd → Prop
 | .click q => sz 250 q
 | .out i => i < c.rows.length
 | .into i => i < c.rows.length
 | .put i q => i < c.rows.length ∧ sz 25 q
 | .gear i q => i < c.rows.length ∧ sz 200 q
 | .ends i l => i < c.rows.length ∧ ∀ a, l.1 = some a ∨ l.2 = some a → sz 200 a
end Ow
namespace Ow
open PySem PySem.Spec PySem.SeqAt PyProof.Rows L2
end Ow
namespace Ow
open PySem PySem.Spec PySem.SeqAt PyProof.Rows L2
def sdr (r : MRow) : List Nat := match r.drv with
 | [a, b] => if a < b then [a, b] else if b < a then [b, a] else [a]
 | l => l
theorem sdr_mem (r : MRow) (x : Nat) : x ∈ sdr r ↔ x ∈ r.drv := by
 cases r with
 | adder s a b =>
  show x ∈ (if a < b then [a, b] else if b < a then [b, a] else [a]) ↔ x ∈ [a, b]
  split
  · exact Iff.rfl
  · split
    · simp [or_comm]
    · have : a = b := by omega
      subst this; simp
 | _ => exact Iff.rfl
def wtK (m : List MRow) (st : List Nat) (k : Nat) : Nat := ((sdr (m.getD k default)).filter fun d => !decide (d ∈ st)).length
def bhK (m : List MRow) (d : Nat) : List Nat := (List.range m.length).filter fun k => decide (d ∈ drvs m k)
theorem mem_bhK {m : List MRow} {d k : Nat} : k ∈ bhK m d ↔ k < m.length ∧ d ∈ drvs m k := by
 unfold bhK
 rw [List.mem_filter, List.mem_range, decide_eq_true_eq]
theorem bhK_nd (m : List MRow) (d : Nat) : (bhK m d).Nodup := List.nodup_range.sublist List.filter_sublist
theorem wtK_0 {m : List MRow} {st : List Nat} {k : Nat} : wtK m st k = 0 ↔ ∀ d ∈ drvs m k, d ∈ st := by
 unfold wtK drvs
 rw [List.length_eq_zero_iff, List.filter_eq_nil_iff]
 constructor
 · intro h d hd
   have := h d ((sdr_mem _ d).mpr hd)
   simpa using this
 · intro h d hd
   simpa using h d ((sdr_mem _ d).mp hd)
def RdyL (m : List MRow) (st R : List Nat) : Prop := R.Nodup ∧ ∀ x, x ∈ R ↔ x ∈ rdy m st
theorem RdyL.next {m : List MRow} {st R : List Nat} {s : Nat} (h : RdyL m st R) (hs : s ∈ rdy m st) (cl : ∀ i ∈ st, ∀ d ∈ drvs m i, d ∈ st) : RdyL m (st ++ [s]) (R.erase s ++ (bhK m s).filter fun k => decide (wtK m (st ++ [s]) k = 0)) := by
 obtain ⟨nd, mem⟩ := h
 obtain ⟨s1, s2, s3⟩ := mem_rdy.mp hs
 have mE : ∀ x, x ∈ R.erase s ↔ x ≠ s ∧ x ∈ R := fun x => nd.mem_erase_iff
 have mB : ∀ x, x ∈ ((bhK m s).filter fun k => decide (wtK m (st ++ [s]) k = 0)) ↔ x < m.length ∧ s ∈ drvs m x ∧ ∀ d ∈ drvs m x, d ∈ st ++ [s] := fun x => by
  rw [List.mem_filter, mem_bhK, decide_eq_true_eq, wtK_0]
  exact ⟨fun ⟨⟨a, b⟩, c⟩ => ⟨a, b, c⟩, fun ⟨a, b, c⟩ => ⟨⟨a, b⟩, c⟩⟩
 refine ⟨List.nodup_append.mpr ⟨nd.erase s, (bhK_nd m s).sublist List.filter_sublist, fun a ha b hb e => ?_⟩, fun x => ?_⟩
 · subst e
   have h1 := (mem a).mp ((mE a).mp ha).2
   have h2 := (mB a).mp hb
   exact s2 ((mem_rdy.mp h1).2.2 s h2.2.1)
 · rw [List.mem_append, mE, mB, mem_rdy]
   constructor
   · rintro (⟨a, b⟩ | ⟨a, b, c⟩)
     · obtain ⟨b1, b2, b3⟩ := mem_rdy.mp ((mem x).mp b)
       exact ⟨b1, by simp [b2, a], fun d hd => List.mem_append_left _ (b3 d hd)⟩
     · refine ⟨a, ?_, c⟩
       intro z
       rcases List.mem_append.mp z with z | z
       · exact s2 (cl x z s b)
       · rw [List.mem_singleton.mp z] at b
         exact s2 (s3 s b)
   · rintro ⟨a, b, c⟩
     by_cases z : s ∈ drvs m x
     · exact .inr ⟨a, z, c⟩
     · refine .inl ⟨fun e => b (by rw [e]; simp), (mem x).mpr (mem_rdy.mpr ⟨a, fun q => b (List.mem_append_left _ q), fun d hd => ?_⟩)⟩
       rcases List.mem_append.mp (c d hd) with q | q
       · exact q
       · rw [List.mem_singleton.mp q] at hd; exact absurd hd z
end Ow
namespace Ow
open PySem PySem.Spec PySem.SeqAt PyProof.Rows L2
end Ow
namespace Ow
open PySem PySem.Spec PySem.SeqAt PyProof.Rows L2
def tx (a : List Nat) : D := .str (SX.S a)
def okT (a : List Nat) : Prop := ∀ c ∈ a, c < 1114112
theorem lcN {n : Nat} (h : n ≤ 10000) : n ≤ sizeLine := by rw [sizeLine_eq]; omega
theorem okT.ok {a : List Nat} (h : okT a) : PyData.strOk (SX.S a) = true := by
 show (SX.S a).cps.all (· < 0x110000) = true
 rw [← Array.all_toList]
 exact List.all_eq_true.mpr fun c hc => decide_eq_true (h c hc)
theorem okT.sub {a b : List Nat} (h : okT b) (s : ∀ c ∈ a, c ∈ b) : okT a := fun c hc => h c (s c hc)
theorem tx_cat {a b : List Nat} (h : a.length + b.length ≤ 10000) : dCatS (tx a) (tx b) = some (tx (a ++ b)) := by
 show (if (SX.S a).length + (SX.S b).length ≤ sizeLine then some (D.str (SX.S a ++ SX.S b)) else none) = _
 rw [SX.S_len, SX.S_len, if_pos (lcN h), SX.S_cat]
 rfl
def prt (c : Nat) (a : List Nat) : List Nat × List Nat × List Nat := match a with
 | [] => ([], [], [])
 | x :: l => if x = c then ([], [c], l) else (x :: (prt c l).1, (prt c l).2)
def intL : Int → List Nat
 | .ofNat n => TL.numL n
 | .negSucc n => 45 :: TL.numL (n + 1)
theorem str_int (i : Int) : (Str.ofString (toString i)) = SX.S (intL i) := by
 cases i with
 | ofNat n => exact SX.num_S n
 | negSucc n =>
  refine TL.ext_tl ?_
  rw [TL.tl_ofString]
  have e := TL.tl_num (n + 1)
  rw [TL.tl_ofString] at e
  show (toString (Int.negSucc n)).toList.map Char.toNat = 45 :: TL.numL (n + 1)
  rw [← e]
  show ("-" ++ toString ((n + 1 : Nat) : Int)).toList.map Char.toNat = _
  rw [String.toList_append, List.map_append]
  rfl
theorem tx_int {i : Int} (h : i.natAbs.log2 < 1920) : fStrI [.int i] = some (tx (intL i)) := by
 show (if i.natAbs.log2 < 1920 then some (D.str (Str.ofString (toString i))) else none) = _
 rw [if_pos h, str_int]
 rfl
section
variable {σ : List D}
end
def dg (c : Nat) : Bool := decide (48 ≤ c ∧ c ≤ 57)
def figs (l : List Nat) : Bool := decide (1 ≤ l.length ∧ l.length ≤ 60) && l.all dg && (decide (l = [48]) || !decide (l.head? = some 48))
def figV (l : List Nat) : Int := ((PySem.NumText.digitsVal l : Nat) : Int)
def isNeg (top : List Nat) : Bool := decide (top.take 1 = [45])
def bare (top : List Nat) : List Nat := if isNeg top = true then top.drop 1 else top
def showL (r : Rat) : List Nat := intL r.num ++ if r.den = 1 then [] else 47 :: TL.numL r.den
theorem intL_len {i : Int} (h : i.natAbs < 10 ^ 60) : (intL i).length ≤ 61 := by
 cases i with
 | ofNat n =>
  have := TL.numL_len (n := n) (k := 60) (by decide) h
  exact Nat.le_succ_of_le this
 | negSucc n =>
  have := TL.numL_len (n := n + 1) (k := 60) (by decide) h
  exact Nat.succ_le_succ this
theorem log_60 {n : Nat} (h : n < 10 ^ 60) : n.log2 < 1920 := by
 by_cases h0 : n = 0
 · subst h0; decide
 · exact (Nat.log2_lt h0).mpr (Nat.lt_of_lt_of_le h (by decide +kernel))
def tailL (r : Rat) : List Nat := if r.den = 1 then [] else 47 :: TL.numL r.den
structure Shown (r : Rat) : Prop where
 f1 : fStrI [.int r.num] = some (tx (intL r.num))
 f2 : fStrI [.int (r.den : Int)] = some (tx (TL.numL r.den))
 c1 : dCatS (tx [47]) (tx (TL.numL r.den)) = some (tx (47 :: TL.numL r.den))
 pk : dIx (.lst [tx (47 :: TL.numL r.den), tx []]) (.int (if decide ((r.den : Int) = 1) = true then 1 else 0)) = some (tx (tailL r))
 c2 : dCatS (tx (intL r.num)) (tx (tailL r)) = some (tx (showL r))
theorem shown {r : Rat} (h1 : r.num.natAbs < 10 ^ 60) (h2 : r.den < 10 ^ 60) : Shown r := by
 have l1 := intL_len h1
 have l2 := TL.numL_len (n := r.den) (k := 60) (by decide) h2
 refine ⟨tx_int (log_60 h1), tx_int (i := (r.den : Int)) (log_60 h2), tx_cat (by simp; omega), ?_, ?_⟩
 · unfold tailL
   by_cases hd : r.den = 1
   · have hd2 : (r.den : Int) = 1 := by omega
     rw [if_pos (decide_eq_true hd2), if_pos hd]
     exact ix_lN (n := 1) rfl
   · have hd2 : ¬ (r.den : Int) = 1 := by omega
     rw [if_neg (by rw [decide_eq_false hd2]; decide), if_neg hd]
     exact ix_l0
 · refine tx_cat ?_
   unfold tailL
   split
   · simp; omega
   · simp; omega
end Ow
namespace Ow
open PySem PySem.Spec PySem.SeqAt PyProof.Rows L2
def ltr (w : List Nat) : List Nat × List Nat × List Nat := prt 94 (w.drop 1)
def kLtr (w : List Nat) : Int := figV (ltr w).1
def pwr (w : List Nat) : Int := if (ltr w).2.1 = [] then 1 else figV (ltr w).2.2
def okW (n : Nat) (last : Int) (w : List Nat) : Bool := decide (w.take 1 = [120]) && figs (ltr w).1 && (decide ((ltr w).2.1 = []) || figs (ltr w).2.2) && decide (last < kLtr w) && decide (kLtr w < n) && (decide ((ltr w).2.1 = []) || decide (2 ≤ pwr w))
def putW (w : List Nat) (st : Int × List Int) : Int × List Int := (kLtr w, st.2.set (kLtr w).toNat (pwr w))
structure LInv (n : Nat) (st : Int × List Int) : Prop where
 len : st.2.length = n
 lo : -1 ≤ st.1
 hi : st.1 < n
 zero : ∀ i : Nat, st.1 < i → st.2.getD i 0 = 0
 at_ : ∀ i : Nat, st.1 = i → st.2.getD i 0 ≠ 0
 nn : ∀ a ∈ st.2, 0 ≤ a
theorem figV_nn (l : List Nat) : 0 ≤ figV l := Int.natCast_nonneg _
theorem okW_parts {n : Nat} {last : Int} {w : List Nat} (h : okW n last w = true) : w.take 1 = [120] ∧ figs (ltr w).1 = true ∧ ((ltr w).2.1 = [] ∨ figs (ltr w).2.2 = true) ∧ last < kLtr w ∧ kLtr w < n ∧ ((ltr w).2.1 = [] ∨ 2 ≤ pwr w) := by
 unfold okW at h
 simp only [Bool.and_eq_true, Bool.or_eq_true, decide_eq_true_eq] at h
 exact ⟨h.1.1.1.1.1, h.1.1.1.1.2, h.1.1.1.2, h.1.1.2, h.1.2, h.2⟩
theorem pwr_pos {n : Nat} {last : Int} {w : List Nat} (h : okW n last w = true) : 1 ≤ pwr w := by
 obtain ⟨_, _, _, _, _, h6⟩ := okW_parts h
 rcases h6 with e | e
 · unfold pwr
   rw [if_pos e]
   decide
 · omega
theorem LInv.put {n : Nat} {st : Int × List Int} {w : List Nat} (v : LInv n st) (h : okW n st.1 w = true) : LInv n (putW w st) := by
 obtain ⟨_, _, _, h4, h5, _⟩ := okW_parts h
 have hp := pwr_pos h
 have k0 : 0 ≤ kLtr w := figV_nn _
 obtain ⟨k, hk⟩ : ∃ k : Nat, kLtr w = k := ⟨(kLtr w).toNat, by omega⟩
 have hl := v.len
 refine ⟨by unfold putW; rw [List.length_set]; exact hl, by show -1 ≤ kLtr w; omega, h5, fun i hi => ?_, fun i hi => ?_, fun a ha => ?_⟩
 · have hi : kLtr w < i := hi
   unfold putW
   dsimp only
   rw [hk, Int.toNat_natCast]
   have ne : k ≠ i := by omega
   rw [List.getD_eq_getElem?_getD, List.getElem?_set_ne ne, ← List.getD_eq_getElem?_getD]
   exact v.zero i (by omega)
 · have hi : kLtr w = i := hi
   unfold putW
   dsimp only
   rw [hi, Int.toNat_natCast, List.getD_eq_getElem?_getD, List.getElem?_set_self (by omega)]
   show pwr w ≠ 0
   omega
 · rcases List.mem_or_eq_of_mem_set ha with z | z
   · exact v.nn a z
   · omega
theorem LInv.start {n : Nat} (h : 0 < n) : LInv n (-1, List.replicate n 0) := by
 refine ⟨List.length_replicate, by show (-1 : Int) ≤ -1; omega, by show (-1 : Int) < n; omega, fun i _ => ?_, fun i hi => by have : (-1 : Int) = i := hi; omega, fun a ha => by rw [List.eq_of_mem_replicate ha]; decide⟩
 rw [List.getD_eq_getElem?_getD, List.getElem?_replicate]
 split <;> rfl
theorem LInv.any {n : Nat} {st : Int × List Int} (v : LInv n st) {k : Nat} (hk : k < n) : (st.2.drop k).any (fun a => a != 0) = !decide (st.1 < k) := by
 by_cases h : st.1 < k
 · rw [decide_eq_true h]
   show _ = false
   rw [List.any_eq_false]
   intro a ha
   obtain ⟨i, hi⟩ := List.getElem?_of_mem ha
   rw [List.getElem?_drop] at hi
   have := v.zero (k + i) (by omega)
   rw [List.getD_eq_getElem?_getD, hi] at this
   have : a = 0 := this
   rw [this]
   decide
 · rw [decide_eq_false h]
   show _ = true
   obtain ⟨m, hm⟩ : ∃ m : Nat, st.1 = m := ⟨st.1.toNat, by omega⟩
   have ne := v.at_ m hm
   have hlt : m < st.2.length := by have := v.hi; have := v.len; omega
   have e : st.2[m]? = some st.2[m] := List.getElem?_eq_getElem hlt
   rw [List.getD_eq_getElem?_getD, e] at ne
   have ne : st.2[m] ≠ 0 := ne
   refine List.any_eq_true.mpr ⟨st.2[m], ?_, by simpa using ne⟩
   refine List.mem_of_getElem? (i := m - k) ?_
   rw [List.getElem?_drop, show k + (m - k) = m by omega]
   exact e
end Ow
namespace Ow
open PySem PySem.Spec PySem.SeqAt PyProof.Rows L2
mutual
def D.wt : D → Nat
 | .tup ds => 1 + D.wts ds
 | .lst ds => 1 + D.wts ds
 | .non => 1
 | .bl _ => 1
 | .int _ => 1
 | .str _ => 1
 | .dK _ => 1
 | .dT _ => 1
 | .ins _ _ => 1
 | .fzl _ => 1
 | .exn _ _ => 1
 | .fzd _ _ => 1
def D.wts : List D → Nat
 | [] => 0
 | d :: ds => d.wt + D.wts ds
end
end Ow
namespace Ow
open PySem PySem.Spec PySem.SeqAt PyProof.Rows L2
end Ow
namespace Ow
open PySem PySem.Spec PySem.SeqAt PyProof.Rows L2
def ft : Nat → Nat
 | 0 => 1
 | k + 1 => (k + 1) * ft k
theorem ft_pos : ∀ k, 0 < ft k
 | 0 => Nat.one_pos
 | k + 1 => Nat.mul_pos (Nat.succ_pos _) (ft_pos k)
theorem even_src {m : List MRow} (he : evenB m = true) {i : Nat} (hi : i < m.length) {s : Rat} {w d : Nat} (hr : m.getD i default = .disc s w d) : (m.getD d default).isSrc = true := by
 have h := List.all_eq_true.mp he i (List.mem_filter.mpr ⟨List.mem_range.mpr hi, by rw [hr]; rfl⟩)
 rw [hr] at h
 exact h
theorem turn_src {m : List MRow} {T : Nat → Nat → Rat} (hT : Turn m T) {d : Nat} (hd : d < m.length) (hs : (m.getD d default).isSrc = true) {k : Nat} (hk : 0 < k) : T d k = if k = 1 then 1 else 0 := by
 rw [hT.step d k hd hk]
 cases e : m.getD d default with
 | source s => rfl
 | _ => rw [e] at hs; cases hs
theorem af_src {f g : Nat → Rat} {k : Nat} (hg : ∀ j, 0 < j → g j = if j = 1 then 1 else 0) : af f g (k + 1) (k + 1) = f k := by
 have z : ∀ j, j ≤ k → sumF (fun i => (((k + 1 - i : Nat) : Int) : Rat) * (f i * g (k + 1 - i))) j = 0 := fun j => by
  induction j with
  | zero => intro _; rfl
  | succ j ih =>
   intro hj
   show sumF _ j + (((k + 1 - j : Nat) : Int) : Rat) * (f j * g (k + 1 - j)) = 0
   rw [ih (by omega), hg _ (by omega), if_neg (by omega)]
   grind
 show sumF _ k + (((k + 1 - k : Nat) : Int) : Rat) * (f k * g (k + 1 - k)) = f k
 rw [z k (Nat.le_refl _), show k + 1 - k = 1 by omega, hg 1 (by omega), if_pos rfl]
 show 0 + ((1 : Int) : Rat) * (f k * 1) = f k
 grind
theorem disc_term {m : List MRow} (hm : Mach m) (he : evenB m = true) {T : Nat → Nat → Rat} (hT : Turn m T) {i : Nat} (hi : i < m.length) {s : Rat} {w d : Nat} (hr : m.getD i default = .disc s w d) (k : Nat) : T i (k + 1) = T w k / (((k + 1 : Nat) : Int) : Rat) := by
 obtain ⟨rk, hrk⟩ := hm.rk
 have hd : d < m.length := (hrk i _ (hm.at hi) d (by rw [hr]; simp [MRow.drv])).1
 rw [hT.step i (k + 1) hi (Nat.succ_pos _), hr]
 show af (T w) (T d) (k + 1) (k + 1) / _ = _
 rw [af_src fun j hj => turn_src hT hd (even_src he hi hr) hj]
end Ow
namespace Ow
open PySem PySem.Spec PySem.SeqAt PyProof.Rows L2
section
variable (l h : Nat → Nat → Rat)
end
end Ow
namespace Ow
open PySem PySem.Spec PySem.SeqAt PyProof.Rows L2
end Ow
namespace Ow
open PySem PySem.Spec PySem.SeqAt PyProof.Rows L2
def skp (j b : Nat) : Nat := if b < j then b else b + 1
def sg : Nat → Rat
 | 0 => 1
 | n + 1 => - sg n
def dt : Nat → (Nat → Nat → Rat) → Rat
 | 0, _ => 1
 | n + 1, A => sumF (fun j => sg j * A 0 j * dt n fun a b => A (a + 1) (skp j b)) (n + 1)
theorem skp_lt {j b n : Nat} (hj : j < n + 1) (hb : b < n) : skp j b < n + 1 := by unfold skp; split <;> omega
theorem dt_congr : ∀ {n : Nat} {A B : Nat → Nat → Rat}, (∀ i j, i < n → j < n → A i j = B i j) → dt n A = dt n B
 | 0, _, _, _ => rfl
 | n + 1, A, B, h => sumF_congr fun j hj => by
  rw [h 0 j (by omega) hj, dt_congr fun a b ha hb => h (a + 1) (skp j b) (by omega) (skp_lt hj hb)]
def stR (A : Nat → Nat → Rat) (i : Nat) (u : Nat → Rat) : Nat → Nat → Rat := fun a b => if a = i then u b else A a b
theorem dt_lin : ∀ {n i : Nat} {A : Nat → Nat → Rat} {u v : Nat → Rat} (c : Rat), i < n → dt n (stR A i fun b => u b + c * v b) = dt n (stR A i u) + c * dt n (stR A i v)
 | n + 1, 0, A, u, v, c, _ => by
  show sumF _ _ = sumF _ _ + c * sumF _ _
  rw [← sumF_mul, ← sumF_add]
  refine sumF_congr fun j hj => ?_
  have e : ∀ w : Nat → Rat, (dt n fun a b => stR A 0 w (a + 1) (skp j b)) = dt n fun a b => A (a + 1) (skp j b) := fun w => rfl
  rw [e, e, e]
  show sg j * (u j + c * v j) * _ = sg j * u j * _ + c * (sg j * v j * _)
  grind
 | n + 1, i + 1, A, u, v, c, h => by
  show sumF _ _ = sumF _ _ + c * sumF _ _
  rw [← sumF_mul, ← sumF_add]
  refine sumF_congr fun j hj => ?_
  have e : ∀ w : Nat → Rat, (dt n fun a b => stR A (i + 1) w (a + 1) (skp j b)) = dt n (stR (fun a b => A (a + 1) (skp j b)) i fun b => w (skp j b)) := fun w => dt_congr fun a b _ _ => by
   unfold stR
   by_cases z : a = i
   · rw [if_pos z, if_pos (by omega)]
   · rw [if_neg z, if_neg (by omega)]
  have e0 : ∀ w : Nat → Rat, stR A (i + 1) w 0 j = A 0 j := fun w => if_neg (by omega)
  rw [e, e, e, e0, e0, e0, dt_lin (n := n) (i := i) (u := fun b => u (skp j b)) (v := fun b => v (skp j b)) c (by omega)]
  grind
theorem sumF_neg (f : Nat → Rat) (n : Nat) : sumF (fun i => - f i) n = - sumF f n := by
 have h := sumF_mul (-1) f n
 rw [sumF_congr (g := fun i => -1 * f i) fun i _ => by grind, h]
 grind
theorem alt_zero (n : Nat) (f : Nat → Nat → Rat) (h : ∀ j l, j ≤ l → l < n + 1 → f (l + 1) j = - f j l) : sumF (fun j => sumF (fun l => f j l) (n + 1)) (n + 2) = 0 := by
 have p : ∀ j, sumF (fun l => f j l) (n + 1) = sumF (fun l => if j ≤ l then f j l else 0) (n + 1) + sumF (fun l => if j ≤ l then 0 else f j l) (n + 1) := fun j => by
  rw [← sumF_add]
  refine sumF_congr fun l _ => ?_
  split <;> grind
 rw [sumF_congr fun j _ => p j, sumF_add]
 have a : sumF (fun j => sumF (fun l => if j ≤ l then f j l else 0) (n + 1)) (n + 2) = sumF (fun j => sumF (fun l => if j ≤ l then f j l else 0) (n + 1)) (n + 1) := by
  show sumF _ (n + 1) + sumF (fun l => if n + 1 ≤ l then f (n + 1) l else 0) (n + 1) = _
  rw [sumF_congr (f := fun l => if n + 1 ≤ l then f (n + 1) l else 0) (g := fun _ => 0) fun l hl => if_neg (by omega), sumF_zero]
  grind
 have b : sumF (fun j => sumF (fun l => if j ≤ l then 0 else f j l) (n + 1)) (n + 2) = - sumF (fun j => sumF (fun l => if j ≤ l then f j l else 0) (n + 1)) (n + 1) := by
  rw [sumF_first]
  rw [sumF_congr (f := fun l => if 0 ≤ l then 0 else f 0 l) (g := fun _ => 0) fun l _ => if_pos (by omega), sumF_zero]
  rw [sumF_swap, ← sumF_neg]
  have : ∀ l, l < n + 1 → sumF (fun i => if i + 1 ≤ l then 0 else f (i + 1) l) (n + 1) = - sumF (fun i => if l ≤ i then f l i else 0) (n + 1) := fun l hl => by
   rw [← sumF_neg]
   refine sumF_congr fun i hi => ?_
   by_cases z : l ≤ i
   · rw [if_neg (by omega), if_pos z, h l i z hi]
   · rw [if_pos (by omega), if_neg z]; grind
  rw [sumF_congr this]
  grind
 rw [a, b]
 grind
theorem sg_sq (j : Nat) : sg (j + 1) = - sg j := rfl
theorem skp_skp {j l b : Nat} (h : j ≤ l) : skp (l + 1) (skp j b) = skp j (skp l b) := by
 unfold skp
 by_cases h1 : b < j <;> by_cases h2 : b < l <;> simp [h1, h2] <;> (try split) <;> (try split) <;> omega
theorem dt_first (n : Nat) (A : Nat → Nat → Rat) (h : ∀ b, A 1 b = A 0 b) : dt (n + 2) A = 0 := by
 show sumF (fun j => sg j * A 0 j * sumF (fun l => sg l * A 1 (skp j l) * dt n fun a b => A (a + 2) (skp j (skp l b))) (n + 1)) (n + 2) = 0
 rw [sumF_congr (g := fun j => sumF (fun l => sg j * A 0 j * (sg l * A 1 (skp j l) * dt n fun a b => A (a + 2) (skp j (skp l b)))) (n + 1)) fun j _ => by rw [sumF_mul]]
 refine alt_zero n _ fun j l hjl hl => ?_
 rw [h, h, show skp (l + 1) j = j from if_pos (by omega), show skp j l = l + 1 from if_neg (by omega), dt_congr (n := n) (A := fun a b => A (a + 2) (skp (l + 1) (skp j b))) (B := fun a b => A (a + 2) (skp j (skp l b))) fun a b _ _ => by rw [skp_skp hjl], sg_sq]
 grind
theorem dt_next : ∀ {n i : Nat} {A : Nat → Nat → Rat}, i + 1 < n → (∀ b, A (i + 1) b = A i b) → dt n A = 0
 | n + 2, 0, A, _, h => dt_first n A h
 | n + 1, i + 1, A, hi, h => by
  show sumF _ _ = 0
  rw [sumF_congr (g := fun _ => 0) fun j _ => by rw [dt_next (n := n) (i := i) (by omega) fun b => h _]; grind, sumF_zero]
theorem stR_self (A : Nat → Nat → Rat) (i : Nat) : stR A i (A i) = A := by
 funext a b
 unfold stR
 by_cases z : a = i
 · rw [if_pos z, z]
 · rw [if_neg z]
theorem stR_comm {A : Nat → Nat → Rat} {i k : Nat} {u v : Nat → Rat} (h : i ≠ k) : stR (stR A i u) k v = stR (stR A k v) i u := by
 funext a b
 unfold stR
 by_cases z : a = i <;> by_cases y : a = k <;> simp [z, y, h] <;> omega
def swR (A : Nat → Nat → Rat) (i k : Nat) : Nat → Nat → Rat := stR (stR A i (A k)) k (A i)
theorem dt_sw_of {n i k : Nat} (hi : i < n) (hk : k < n) (ik : i ≠ k) (z : ∀ (A : Nat → Nat → Rat) (u : Nat → Rat), dt n (stR (stR A i u) k u) = 0) (A : Nat → Nat → Rat) : dt n (swR A i k) = - dt n A := by
 have L1 : ∀ (B : Nat → Nat → Rat) (u v : Nat → Rat), dt n (stR B i fun b => u b + 1 * v b) = dt n (stR B i u) + 1 * dt n (stR B i v) := fun B u v => dt_lin 1 hi
 have L2 : ∀ (B : Nat → Nat → Rat) (u v : Nat → Rat), dt n (stR B k fun b => u b + 1 * v b) = dt n (stR B k u) + 1 * dt n (stR B k v) := fun B u v => dt_lin 1 hk
 have e := z A fun b => A i b + 1 * A k b
 rw [L2, stR_comm ik, L1, stR_comm ik, L1, stR_comm (Ne.symm ik), z, stR_comm (Ne.symm ik), stR_comm (Ne.symm ik), ← stR_comm (i := i) (k := k) (u := A k) (v := A k) ik, z] at e
 have a : stR (stR A i (A i)) k (A k) = A := by rw [stR_self, stR_self]
 rw [a] at e
 unfold swR
 grind
theorem dt_swn {n i : Nat} (hi : i + 1 < n) (A : Nat → Nat → Rat) : dt n (swR A i (i + 1)) = - dt n A :=
 dt_sw_of (by omega) hi (by omega) (fun A u => dt_next hi fun b => by simp [stR]) A
theorem dt_like : ∀ (d : Nat) {n i : Nat} {A : Nat → Nat → Rat}, i + 1 + d < n → (∀ b, A (i + 1 + d) b = A i b) → dt n A = 0
 | 0, n, i, A, h, e => dt_next h e
 | d + 1, n, i, A, h, e => by
  have s := dt_swn (n := n) (i := i) (by omega) A
  have z := dt_like d (n := n) (i := i + 1) (A := swR A i (i + 1)) (by omega) fun b => by
   unfold swR stR
   rw [if_neg (by omega), if_neg (by omega), if_pos rfl, ← e, show i + 1 + 1 + d = i + 1 + (d + 1) by omega]
  rw [z] at s
  grind
theorem dt_alike {n i k : Nat} {A : Nat → Nat → Rat} (hi : i < n) (hk : k < n) (ik : i ≠ k) (e : ∀ b, A k b = A i b) : dt n A = 0 := by
 rcases Nat.lt_or_gt_of_ne ik with h | h
 · exact dt_like (k - (i + 1)) (i := i) (by omega) (by rw [show i + 1 + (k - (i + 1)) = k by omega]; exact e)
 · exact dt_like (i - (k + 1)) (i := k) (by omega) (by rw [show k + 1 + (i - (k + 1)) = i by omega]; exact fun b => (e b).symm)
theorem dt_sw {n i k : Nat} (hi : i < n) (hk : k < n) (ik : i ≠ k) (A : Nat → Nat → Rat) : dt n (swR A i k) = - dt n A :=
 dt_sw_of hi hk ik (fun A u => dt_alike hi hk ik fun b => by simp [stR]) A
theorem dt_plus {n i k : Nat} (hi : i < n) (hk : k < n) (ik : i ≠ k) (c : Rat) (A : Nat → Nat → Rat) : dt n (stR A i fun b => A i b + c * A k b) = dt n A := by
 rw [dt_lin c hi, stR_self, dt_alike (A := stR A i (A k)) hi hk ik fun b => by
  unfold stR
  rw [if_pos rfl, if_neg (Ne.symm ik)]]
 grind
theorem dt_often {n i : Nat} (hi : i < n) (c : Rat) (A : Nat → Nat → Rat) : dt n (stR A i fun b => c * A i b) = c * dt n A := by
 have e := dt_lin (n := n) (i := i) (A := A) (u := fun b => c * A i b) (v := fun b => (-c) * A i b) 1 hi
 have e2 := dt_lin (n := n) (i := i) (A := A) (u := fun _ => 0) (v := fun b => A i b) c hi
 have e3 := dt_lin (n := n) (i := i) (A := A) (u := fun _ => 0) (v := fun _ => 0) 1 hi
 rw [show (fun b => (0 : Rat) + c * A i b) = fun b => c * A i b from funext fun b => by grind, show stR A i (fun b => A i b) = A from stR_self A i] at e2
 rw [show (fun b : Nat => (0 : Rat) + 1 * 0) = fun _ => 0 from funext fun b => by grind] at e3
 rw [e2]
 grind
theorem dt_pluss {n k : Nat} (hk : k < n) (c : Nat → Rat) (hc : c k = 0) (A : Nat → Nat → Rat) : dt n (fun a b => A a b + c a * A k b) = dt n A := by
 have p : ∀ m, m ≤ n → dt n (fun a b => if a < m then A a b + c a * A k b else A a b) = dt n A := by
  intro m
  induction m with
  | zero => intro _; rfl
  | succ m ih =>
   intro hm
   rw [← ih (by omega)]
   by_cases e : m = k
   · refine dt_congr fun a b _ _ => ?_
     by_cases z : a = m
     · subst z
       rw [if_pos (by omega), if_neg (by omega), e, hc]
       grind
     · by_cases y : a < m
       · rw [if_pos (by omega), if_pos y]
       · rw [if_neg (by omega), if_neg y]
   · refine Eq.trans (dt_congr fun a b _ _ => ?_) (dt_plus (i := m) (k := k) (by omega) hk e (c m) fun a b => if a < m then A a b + c a * A k b else A a b)
     unfold stR
     by_cases z : a = m
     · subst z
       rw [if_pos (by omega), if_pos rfl]
       show _ = (if a < a then _ else _) + c a * (if k < a then _ else _)
       rw [if_neg (by omega)]
       by_cases y : k < a
       · rw [if_pos y, hc]; grind
       · rw [if_neg y]
     · rw [if_neg z]
       show _ = if a < m then _ else _
       by_cases y : a < m
       · rw [if_pos (by omega), if_pos y]
       · rw [if_neg (by omega), if_neg y]
 rw [← p n (Nat.le_refl _)]
 exact dt_congr fun a b ha _ => by rw [if_pos ha]
theorem dt_col0 : ∀ {n : Nat} {A : Nat → Nat → Rat}, 0 < n → (∀ a, a < n → A a 0 = 0) → dt n A = 0
 | n + 1, A, _, h => by
  show sumF _ _ = 0
  rw [sumF_congr (g := fun _ => 0) fun j hj => by
   by_cases z : j = 0
   · rw [z, h 0 (by omega)]; grind
   · rw [dt_col0 (n := n) (by omega) fun a ha => by
      show A (a + 1) (skp j 0) = 0
      rw [show skp j 0 = 0 from if_pos (by omega)]
      exact h (a + 1) (by omega)]
     grind, sumF_zero]
theorem dt_peel {n : Nat} {A : Nat → Nat → Rat} (h : ∀ a, a < n → A (a + 1) 0 = 0) : dt (n + 1) A = A 0 0 * dt n fun a b => A (a + 1) (b + 1) := by
 show sumF _ (n + 1) = _
 rw [sumF_first, sumF_congr (g := fun _ => 0) fun j hj => by
  rw [dt_col0 (n := n) (by omega) fun a ha => by
   show A (a + 1) (skp (j + 1) 0) = 0
   rw [show skp (j + 1) 0 = 0 from if_pos (by omega)]
   exact h a ha]
  grind, sumF_zero]
 show (1 : Rat) * A 0 0 * (dt n fun a b => A (a + 1) (skp 0 b)) + 0 = _
 rw [show (fun a b => A (a + 1) (skp 0 b)) = fun a b => A (a + 1) (b + 1) from rfl]
 grind
def dgP (A : Nat → Nat → Rat) : Nat → Rat
 | 0 => 1
 | k + 1 => dgP A k * A k k
theorem dgP_congr {A B : Nat → Nat → Rat} : ∀ {k : Nat}, (∀ i, i < k → A i i = B i i) → dgP A k = dgP B k
 | 0, _ => rfl
 | k + 1, h => by
  show dgP A k * A k k = dgP B k * B k k
  rw [dgP_congr fun i hi => h i (by omega), h k (by omega)]
theorem dgP_first (A : Nat → Nat → Rat) : ∀ k, dgP A (k + 1) = A 0 0 * dgP (fun a b => A (a + 1) (b + 1)) k
 | 0 => by show 1 * A 0 0 = A 0 0 * 1; grind
 | k + 1 => by
  show dgP A (k + 1) * A (k + 1) (k + 1) = A 0 0 * (dgP _ k * A (k + 1) (k + 1))
  rw [dgP_first A k]; grind
theorem dgP_ne {A : Nat → Nat → Rat} : ∀ {k : Nat}, (∀ i, i < k → A i i ≠ 0) → dgP A k ≠ 0
 | 0, _ => by show (1 : Rat) ≠ 0; decide
 | k + 1, h => by
  have a := dgP_ne (A := A) (k := k) fun i hi => h i (by omega)
  have b := h k (by omega)
  show dgP A k * A k k ≠ 0
  intro e
  rcases Rat.mul_eq_zero.mp e with e | e
  · exact a e
  · exact b e
theorem dt_peels : ∀ (k : Nat) {m : Nat} {A : Nat → Nat → Rat}, (∀ i j, j < k → j < i → i < k + m → A i j = 0) → dt (k + m) A = dgP A k * dt m fun a b => A (k + a) (k + b)
 | 0, m, A, _ => by
  show dt (0 + m) A = 1 * _
  rw [Nat.zero_add, Rat.one_mul]
  exact dt_congr fun i j _ _ => by rw [Nat.zero_add, Nat.zero_add]
 | k + 1, m, A, h => by
  rw [show k + 1 + m = k + m + 1 by omega, dt_peel fun a ha => h (a + 1) 0 (by omega) (by omega) (by omega), dt_peels k fun i j a b c => h (i + 1) (j + 1) (by omega) (by omega) (by omega), dgP_first]
  rw [dt_congr (n := m) (A := fun a b => A (k + a + 1) (k + b + 1)) (B := fun a b => A (k + 1 + a) (k + 1 + b)) fun a b _ _ => by rw [show k + a + 1 = k + 1 + a by omega, show k + b + 1 = k + 1 + b by omega]]
  grind
structure El (n k : Nat) (B M : Nat → Nat → Rat) : Prop where
 same : ∀ (m : Nat) (ρ c : Nat → Nat), (∀ a, a < k → ρ a = a) → (∀ a, a < m → ρ a < n) → k ≤ m → dt m (fun a b => M (ρ a) (c b)) = dt m (fun a b => B (ρ a) (c b))
 low : ∀ i j, j < k → j < i → i < n → M i j = 0
 piv : ∀ i, i < k → M i i ≠ 0
theorem El.zero (n : Nat) (B : Nat → Nat → Rat) : El n 0 B B := ⟨fun _ _ _ _ _ _ => rfl, fun _ _ h => by omega, fun _ h => by omega⟩
def trp (i k a : Nat) : Nat := if a = i then k else if a = k then i else a
theorem trp_lt {i k a n : Nat} (hi : i < n) (hk : k < n) (h : a < n) : trp i k a < n := by unfold trp; split <;> (try split) <;> omega
theorem swR_trp {A : Nat → Nat → Rat} {i k : Nat} (a b : Nat) : swR A i k a b = A (trp k i a) b := by
 unfold swR stR trp
 by_cases z : a = k
 · rw [if_pos z, if_pos z]
 · rw [if_neg z, if_neg z]
   by_cases y : a = i
   · rw [if_pos y, if_pos y]
   · rw [if_neg y, if_neg y]
theorem El.swap {n k i : Nat} {B M : Nat → Nat → Rat} (h : El n k B M) (hk : k ≤ i) (hi : i < n) : El n k (swR B k i) (swR M k i) := by
 have kn : k < n := by omega
 refine ⟨fun m ρ c h1 h2 h3 => ?_, fun a b hb hab ha => ?_, fun a ha => ?_⟩
 · have e := h.same m (fun a => trp i k (ρ a)) c (fun a ha => by
    show trp i k (ρ a) = a
    rw [h1 a ha]
    unfold trp
    rw [if_neg (by omega), if_neg (by omega)]) (fun a ha => trp_lt hi kn (h2 a ha)) h3
   rw [dt_congr fun a b _ _ => swR_trp (A := M) (ρ a) (c b), dt_congr fun a b _ _ => swR_trp (A := B) (ρ a) (c b)]
   exact e
 · rw [swR_trp]
   refine h.low _ _ hb ?_ (trp_lt hi kn ha)
   unfold trp
   split <;> (try split) <;> omega
 · rw [swR_trp, show trp i k a = a by unfold trp; rw [if_neg (by omega), if_neg (by omega)]]
   exact h.piv a ha
noncomputable def ldR (M : Nat → Nat → Rat) (k n i j : Nat) : Rat := if k < i ∧ i < n then M i j - M i k / M k k * M k j else M i j
theorem El.step {n k : Nat} {B M : Nat → Nat → Rat} (h : El n k B M) (hk : k < n) (p : M k k ≠ 0) : El n (k + 1) B (ldR M k n) := by
 refine ⟨fun m ρ c h1 h2 h3 => ?_, fun i j hj hi hin => ?_, fun i hi => ?_⟩
 · rw [← h.same m ρ c (fun a ha => h1 a (by omega)) h2 (by omega)]
   have rk : ρ k = k := h1 k (by omega)
   have e := dt_pluss (n := m) (k := k) (by omega) (fun a => if k < ρ a then - (M (ρ a) k / M k k) else 0) (by rw [rk, if_neg (by omega)]) fun a b => M (ρ a) (c b)
   rw [← e]
   refine dt_congr fun a b ha _ => ?_
   show ldR M k n (ρ a) (c b) = M (ρ a) (c b) + _ * M (ρ k) (c b)
   rw [rk]
   unfold ldR
   by_cases z : k < ρ a
   · rw [if_pos ⟨z, h2 a ha⟩, if_pos z]; grind
   · rw [if_neg (by omega), if_neg z]; grind
 · unfold ldR
   by_cases z : j = k
   · subst z
     rw [if_pos ⟨hi, hin⟩]
     grind
   · by_cases y : k < i
     · rw [if_pos ⟨y, hin⟩, h.low i j (by omega) hi hin, h.low k j (by omega) (by omega) hk]; grind
     · rw [if_neg (by omega), h.low i j (by omega) hi hin]
 · unfold ldR
   rw [if_neg (by omega)]
   by_cases z : i = k
   · rw [z]; exact p
   · exact h.piv i (by omega)
theorem El.at {n k : Nat} {B M : Nat → Nat → Rat} (h : El n k B M) {i j : Nat} (hk : k ≤ i) (hi : i < n) (hj : k ≤ j) : dt (k + 1) (fun a b => B (if a < k then a else i) (if b < k then b else j)) = dgP M k * M i j := by
 rw [← h.same (k + 1) (fun a => if a < k then a else i) (fun b => if b < k then b else j) (fun a ha => if_pos ha) (fun a ha => by show (if a < k then a else i) < n; split <;> omega) (by omega)]
 rw [dt_peels k (m := 1) fun a b hb hab ha => by
  rw [if_pos hb]
  exact h.low _ _ hb (by split <;> omega) (by split <;> omega)]
 rw [dgP_congr (B := M) fun a ha => by rw [if_pos ha, if_pos ha]]
 show _ * ((0 : Rat) + 1 * M (if k + 0 < k then _ else i) (if k + 0 < k then _ else j) * 1) = _
 rw [if_neg (by omega), if_neg (by omega)]
 grind
theorem El.dg {n k : Nat} {B M : Nat → Nat → Rat} (h : El n k B M) (hk : k ≤ n) : dt k B = dgP M k := by
 have e0 : dt k M = dt k B := h.same k id id (fun a _ => rfl) (fun a ha => by show a < n; omega) (by omega)
 rw [← e0]
 have e := dt_peels k (m := 0) (A := M) fun a b hb hab ha => h.low _ _ hb hab (by omega)
 rw [Nat.add_zero] at e
 rw [e]
 show dgP M k * 1 = _
 grind
theorem El.none {n k : Nat} {B M : Nat → Nat → Rat} (h : El n k B M) (hk : k < n) (z : ∀ i, k ≤ i → i < n → M i k = 0) : dt n B = 0 := by
 have e0 : dt n M = dt n B := h.same n id id (fun a _ => rfl) (fun a ha => ha) (by omega)
 rw [← e0]
 have e := dt_peels k (m := n - k) (A := M) fun a b hb hab ha => h.low _ _ hb hab (by omega)
 rw [show k + (n - k) = n by omega] at e
 rw [e, dt_col0 (by omega) fun a ha => z (k + a) (by omega) (by omega)]
 grind
def fk : Nat → Nat
 | 0 => 1
 | k + 1 => (k + 1) * fk k
theorem fb_sg : ∀ j, fb 1 1 (sg j)
 | 0 => fb.of_int 1 (by decide)
 | j + 1 => by
  obtain ⟨h0, z, e, hz⟩ := fb_sg j
  refine ⟨h0, -z, ?_, by omega⟩
  rw [Rat.intCast_neg, ← e]
  show (- sg j) * _ = _
  grind
theorem fb_dt {D N : Nat} (hD : 0 < D) : ∀ {n : Nat} {A : Nat → Nat → Rat}, (∀ i j, i < n → j < n → fb D N (A i j)) → fb (D ^ n) (fk n * N ^ n) (dt n A)
 | 0, _, _ => by
  show fb 1 (1 * 1) 1
  exact fb.of_int 1 (by decide)
 | n + 1, A, h => by
  have s := fb.sum (f := fun j => sg j * A 0 j * dt n fun a b => A (a + 1) (skp j b)) (d := D ^ (n + 1)) (M := N * (fk n * N ^ n)) (Nat.pow_pos hD) (n + 1) fun j hj => by
   have e := ((fb_sg j).mul (h 0 j (by omega) hj)).mul (fb_dt hD fun a b ha hb => h (a + 1) (skp j b) (by omega) (skp_lt hj hb))
   rwa [Nat.one_mul, Nat.one_mul, Nat.mul_comm D, ← Nat.pow_succ] at e
  refine s.mono (Nat.le_of_eq ?_)
  show (n + 1) * (N * (fk n * N ^ n)) = (n + 1) * fk n * N ^ (n + 1)
  rw [Nat.pow_succ, Nat.mul_assoc, Nat.mul_left_comm N, Nat.mul_comm N]
end Ow
namespace Ow
open PySem PySem.Spec PySem.SeqAt PyProof.Rows L2
def wt (f : Nat → Rat) (k : Nat) : Rat := ((ft k : Int) : Rat) * f k
abbrev fp (c b e : Nat) (r : Rat) : Prop := fb (c ^ e) (b ^ e) r
end Ow
namespace Ow
open PySem PySem.Spec PySem.SeqAt PyProof.Rows L2
theorem dt_row0 {n i : Nat} {A : Nat → Nat → Rat} (hi : i < n) (h : ∀ b, b < n → A i b = 0) : dt n A = 0 := by
 have e := dt_often hi 0 A
 rw [dt_congr (B := A) fun a b _ hb => by
  unfold stR
  by_cases z : a = i
  · rw [if_pos z, z, h b hb]; grind
  · rw [if_neg z]] at e
 rw [e]
 grind
theorem dt_colc : ∀ {n c : Nat} {A : Nat → Nat → Rat}, c < n → (∀ a, a < n → A a c = 0) → dt n A = 0
 | n + 1, c, A, hc, h => by
  show sumF _ _ = 0
  rw [sumF_congr (g := fun _ => 0) fun j hj => by
   by_cases z : j = c
   · rw [z, h 0 (by omega)]; grind
   · by_cases y : c < j
     · rw [dt_colc (n := n) (c := c) (by omega) fun a ha => by
        show A (a + 1) (skp j c) = 0
        rw [show skp j c = c from if_pos y]
        exact h (a + 1) (by omega)]
       grind
     · rw [dt_colc (n := n) (c := c - 1) (by omega) fun a ha => by
        show A (a + 1) (skp j (c - 1)) = 0
        rw [show skp j (c - 1) = c by unfold skp; rw [if_neg (by omega)]; omega]
        exact h (a + 1) (by omega)]
       grind, sumF_zero]
theorem mul_ne0 {x y : Rat} (h : x ≠ 0) (h2 : y ≠ 0) : x * y ≠ 0 := fun e => (Rat.mul_eq_zero.mp e).elim h h2
theorem wt_0 {m : List MRow} {T : Nat → Nat → Rat} (hT : Turn m T) {i : Nat} (hi : i < m.length) : wt (T i) 0 = (m.getD i default).st := by
 show ((1 : Int) : Rat) * T i 0 = _
 rw [hT.zero i hi]
 exact Rat.one_mul _
theorem wt_disc {m : List MRow} (hm : Mach m) (he : evenB m = true) {T : Nat → Nat → Rat} (hT : Turn m T) {i : Nat} (hi : i < m.length) {s : Rat} {w d : Nat} (hr : m.getD i default = .disc s w d) (k : Nat) : wt (T i) (k + 1) = wt (T w) k := by
 show (((ft (k + 1) : Nat) : Int) : Rat) * T i (k + 1) = ((ft k : Int) : Rat) * T w k
 rw [disc_term hm he hT hi hr k]
 show ((((k + 1) * ft k : Nat) : Int) : Rat) * _ = ((ft k : Int) : Rat) * T w k
 rw [cast_mul]
 have := cast_pos_ne (Nat.succ_pos k)
 grind
theorem wt_gear {m : List MRow} {T : Nat → Nat → Rat} (hT : Turn m T) {i : Nat} (hi : i < m.length) {s q : Rat} {d : Nat} (hr : m.getD i default = .gear s q d) (k : Nat) : wt (T i) (k + 1) = q * wt (T d) (k + 1) := by
 show _ * T i (k + 1) = q * (_ * T d (k + 1))
 rw [hT.step i (k + 1) hi (Nat.succ_pos _), hr]
 show _ * (q * T d (k + 1)) = _
 grind
theorem wt_adder {m : List MRow} {T : Nat → Nat → Rat} (hT : Turn m T) {i : Nat} (hi : i < m.length) {s : Rat} {x y : Nat} (hr : m.getD i default = .adder s x y) (k : Nat) : wt (T i) (k + 1) = wt (T x) (k + 1) + wt (T y) (k + 1) := by
 show _ * T i (k + 1) = _ * T x (k + 1) + _ * T y (k + 1)
 rw [hT.step i (k + 1) hi (Nat.succ_pos _), hr]
 show _ * (T x (k + 1) + T y (k + 1)) = _
 grind
theorem wt_src {m : List MRow} {T : Nat → Nat → Rat} (hT : Turn m T) {i : Nat} (hi : i < m.length) (hs : (m.getD i default).isSrc = true) (k : Nat) : wt (T i) (k + 1) = if k = 0 then 1 else 0 := by
 show _ * T i (k + 1) = _
 rw [turn_src hT hi hs (Nat.succ_pos _)]
 by_cases z : k = 0
 · subst z
   rw [if_pos rfl, if_pos rfl]
   show ((1 : Int) : Rat) * 1 = 1
   exact Rat.one_mul _
 · rw [if_neg (by omega), if_neg z]
   grind
theorem mem_discsL {m : List MRow} {i : Nat} : i ∈ discs m ↔ i < m.length ∧ (m.getD i default).isDisc = true := by
 unfold discs
 rw [List.mem_filter, List.mem_range]
end Ow
namespace Ow
open PySem PySem.Spec PySem.SeqAt PyProof.Rows L2
abbrev mv (n : Nat) (A : Nat → Nat → Rat) (x : Nat → Rat) (i : Nat) : Rat := sumF (fun j => A i j * x j) n
def ker (n : Nat) (A : Nat → Nat → Rat) (x : Nat → Rat) : Prop := ∀ i, i < n → mv n A x i = 0
theorem sumF_one {f : Nat → Rat} {i n : Nat} (hi : i < n) (h : ∀ j, j < n → j ≠ i → f j = 0) : sumF f n = f i := by
 induction n with
 | zero => omega
 | succ n ih =>
  show sumF f n + f n = f i
  by_cases e : i = n
  · subst e
    rw [sumF_congr (g := fun _ => 0) fun j hj => h j (by omega) (by omega), sumF_zero]
    grind
  · rw [ih (by omega) fun j hj => h j (by omega), h n (by omega) (by omega)]
    grind
theorem ker_sw {n i k : Nat} (hi : i < n) (hk : k < n) (A : Nat → Nat → Rat) (x : Nat → Rat) : ker n (swR A i k) x ↔ ker n A x := by
 have one : ∀ A : Nat → Nat → Rat, ker n A x → ker n (swR A i k) x := fun A h a ha => by
  show sumF (fun j => swR A i k a j * x j) n = 0
  rw [sumF_congr fun j _ => by rw [swR_trp]]
  exact h _ (trp_lt hk hi ha)
 refine ⟨fun h => ?_, one A⟩
 have h2 := one _ h
 refine fun a ha => ?_
 rw [← h2 a ha]
 refine sumF_congr fun j _ => ?_
 rw [swR_trp, swR_trp]
 congr 2
 unfold trp
 by_cases h1 : a = k
 · rw [if_pos h1]
   by_cases h2 : i = k
   · rw [if_pos h2, h1, h2]
   · rw [if_neg h2, if_pos rfl, h1]
 · rw [if_neg h1]
   by_cases h2 : a = i
   · rw [if_pos h2, if_pos rfl, h2]
   · rw [if_neg h2, if_neg h1, if_neg h2]
theorem mv_ld {n k : Nat} (M : Nat → Nat → Rat) (x : Nat → Rat) (i : Nat) : mv n (ldR M k n) x i = if k < i ∧ i < n then mv n M x i - M i k / M k k * mv n M x k else mv n M x i := by
 by_cases h : k < i ∧ i < n
 · rw [if_pos h]
   show sumF _ n = sumF _ n - _ * sumF _ n
   rw [← sumF_mul, ← sumF_sub]
   refine sumF_congr fun j _ => ?_
   unfold ldR
   rw [if_pos h]
   grind
 · rw [if_neg h]
   refine sumF_congr fun j _ => ?_
   unfold ldR
   rw [if_neg h]
theorem ker_ld {n k : Nat} (hk : k < n) (M : Nat → Nat → Rat) (x : Nat → Rat) : ker n (ldR M k n) x ↔ ker n M x := by
 refine ⟨fun h => ?_, fun h i hi => ?_⟩
 · have hk0 := h k hk
   rw [mv_ld, if_neg (by omega)] at hk0
   intro i hi
   have e := h i hi
   rw [mv_ld] at e
   by_cases y : k < i ∧ i < n
   · rw [if_pos y, hk0] at e
     grind
   · rwa [if_neg y] at e
 · rw [mv_ld, h i hi, h k hk]
   split <;> grind
structure Led (n k : Nat) (A B M : Nat → Nat → Rat) : Prop where
 el : El n k B M
 dt : ∃ q : Rat, q ≠ 0 ∧ dt n A = q * dt n B
 kr : ∀ x, ker n M x ↔ ker n A x
theorem led_down (n : Nat) (A : Nat → Nat → Rat) : ∀ k, k ≤ n → (∃ B M, Led n k A B M) ∨ ∃ j B M, j < k ∧ Led n j A B M ∧ ∀ i, j ≤ i → i < n → M i j = 0
 | 0, _ => .inl ⟨A, A, El.zero n A, ⟨1, by decide, by grind⟩, fun _ => Iff.rfl⟩
 | k + 1, hk => by
  rcases led_down n A k (by omega) with ⟨B, M, L⟩ | ⟨j, B, M, hj, L, z⟩
  · by_cases h : ∃ i, k ≤ i ∧ i < n ∧ M i k ≠ 0
    · obtain ⟨i, h1, h2, h3⟩ := h
      left
      by_cases ik : i = k
      · subst ik
        exact ⟨B, _, L.el.step (by omega) h3, L.dt, fun x => (ker_ld (by omega) M x).trans (L.kr x)⟩
      · have sw := L.el.swap h1 h2
        have piv : swR M k i k k ≠ 0 := by
         unfold swR stR
         rw [if_neg (Ne.symm ik), if_pos rfl]
         exact h3
        obtain ⟨q, q0, e⟩ := L.dt
        refine ⟨_, _, sw.step (by omega) piv, ⟨-q, by grind, by rw [e, dt_sw (by omega) h2 (Ne.symm ik)]; grind⟩, fun x => (ker_ld (by omega) _ x).trans ((ker_sw (by omega) h2 M x).trans (L.kr x))⟩
    · refine .inr ⟨k, B, M, by omega, L, fun i h1 h2 => ?_⟩
      exact Classical.byContradiction fun y => h ⟨i, h1, h2, y⟩
  · exact .inr ⟨j, B, M, by omega, L, z⟩
theorem back_sub {n k : Nat} {M : Nat → Nat → Rat} (hk : k ≤ n) (low : ∀ i j, j < k → j < i → i < n → M i j = 0) (piv : ∀ i, i < k → M i i ≠ 0) (x0 : Nat → Rat) : ∀ t, t ≤ k → ∃ x : Nat → Rat, (∀ j, k ≤ j → x j = x0 j) ∧ ∀ i, k - t ≤ i → i < k → mv n M x i = 0
 | 0, _ => ⟨x0, fun _ _ => rfl, fun i a b => by omega⟩
 | t + 1, ht => by
  obtain ⟨x, h1, h2⟩ := back_sub hk low piv x0 t (by omega)
  obtain ⟨p, hp⟩ : ∃ p, p = k - (t + 1) := ⟨_, rfl⟩
  have pk : p < k := by omega
  have upd : ∀ (c : Rat) (i : Nat), mv n M (fun j => if j = p then c else x j) i = mv n M x i + M i p * (c - x p) := fun c i => by
   have e : ∀ j, M i j * (if j = p then c else x j) = M i j * x j + (if j = p then M i p * (c - x p) else 0) := fun j => by
    by_cases y : j = p
    · subst y; rw [if_pos rfl, if_pos rfl]; grind
    · rw [if_neg y, if_neg y]; grind
   show sumF _ n = _
   rw [sumF_congr fun j _ => e j, sumF_add, sumF_one (f := fun j => if j = p then M i p * (c - x p) else 0) (i := p) (by omega) fun j _ y => if_neg y, if_pos rfl]
  refine ⟨fun j => if j = p then x p - mv n M x p / M p p else x j, fun j hj => ?_, fun i hi hik => ?_⟩
  · rw [← h1 j hj]
    exact if_neg (by omega)
  · rw [upd]
    by_cases e : i = p
    · subst e
      have := piv i pk
      grind
    · rw [h2 i (by omega) hik, low i p pk (by omega) (by omega)]
      grind
theorem ker_dt {n : Nat} {A : Nat → Nat → Rat} {x : Nat → Rat} (h : ker n A x) {j : Nat} (hj : j < n) (hx : x j ≠ 0) : dt n A = 0 := by
 rcases led_down n A n (Nat.le_refl _) with ⟨B, M, L⟩ | ⟨k, B, M, hk, L, z⟩
 · exfalso
   have hm := (L.kr x).mpr h
   have all : ∀ t i, i + t = n → ∀ j, i ≤ j → j < n → x j = 0 := by
    intro t
    induction t with
    | zero => intro i hi j h1 h2; omega
    | succ t ih =>
     intro i hi j h1 h2
     have up := ih (i + 1) (by omega)
     by_cases e : i = j
     · subst e
       have e := hm i h2
       rw [show mv n M x i = M i i * x i from sumF_one (f := fun j => M i j * x j) h2 fun j hj hji => by
        rcases Nat.lt_or_gt_of_ne hji with y | y
        · rw [L.el.low i j hj y h2]; grind
        · rw [up j (by omega) hj]; grind] at e
       rcases Rat.mul_eq_zero.mp e with e | e
       · exact absurd e (L.el.piv i h2)
       · exact e
     · exact up j (by omega) h2
   exact hx (all n 0 (by omega) j (by omega) hj)
 · obtain ⟨q, q0, e⟩ := L.dt
   rw [e, L.el.none hk z]
   grind
theorem dt_ker {n : Nat} {A : Nat → Nat → Rat} (h : dt n A = 0) : ∃ x : Nat → Rat, ker n A x ∧ ∃ j, j < n ∧ x j ≠ 0 := by
 rcases led_down n A n (Nat.le_refl _) with ⟨B, M, L⟩ | ⟨k, B, M, hk, L, z⟩
 · exfalso
   obtain ⟨q, q0, e⟩ := L.dt
   have d := L.el.dg (Nat.le_refl _)
   have p := dgP_ne L.el.piv
   rw [← d] at p
   rw [h] at e
   exact (mul_ne0 q0 p) e.symm
 · obtain ⟨x, h1, h2⟩ := back_sub (Nat.le_of_lt hk) L.el.low L.el.piv (fun j => if j = k then 1 else 0) k (Nat.le_refl _)
   refine ⟨x, (L.kr x).mp fun i hi => ?_, k, hk, by rw [h1 k (Nat.le_refl _), if_pos rfl]; decide⟩
   by_cases y : i < k
   · exact h2 i (by omega) y
   · show sumF _ n = 0
     rw [sumF_congr (g := fun _ => 0) fun j hj => ?_, sumF_zero]
     by_cases y2 : j < k
     · rw [L.el.low i j y2 (by omega) hi]; grind
     · rw [h1 j (by omega)]
       by_cases y3 : j = k
       · rw [y3, z i (by omega) hi]; grind
       · rw [if_neg y3]; grind
theorem dep (R : Nat) (c : Nat → Nat → Rat) : ∃ y : Nat → Rat, (∃ j, j ≤ R ∧ y j ≠ 0) ∧ ∀ d, d < R → sumF (fun j => y j * c j d) (R + 1) = 0 := by
 have z : dt (R + 1) (fun a b => if a < R then c b a else 0) = 0 := dt_row0 (i := R) (by omega) fun b _ => if_neg (by omega)
 obtain ⟨y, hk, j, hj, hy⟩ := dt_ker z
 refine ⟨y, ⟨j, by omega, hy⟩, fun d hd => ?_⟩
 rw [← hk d (by omega)]
 refine sumF_congr fun j _ => ?_
 show _ = (if d < R then c j d else 0) * y j
 rw [if_pos hd]
 grind
structure OrdR (R : Nat) (e : Nat → Rat) (c : Nat → Rat) (A v : Nat → Nat → Rat) : Prop where
 mix : ∀ k, e k = sumF (fun d => c d * v d k) R
 turn : ∀ d, d < R → ∀ k, v d (k + 1) = sumF (fun d' => A d d' * v d' k) R
def cIt (R : Nat) (c : Nat → Rat) (A : Nat → Nat → Rat) : Nat → Nat → Rat
 | 0 => c
 | j + 1 => fun d' => sumF (fun d => cIt R c A j d * A d d') R
theorem OrdR.it {R : Nat} {e c : Nat → Rat} {A v : Nat → Nat → Rat} (h : OrdR R e c A v) : ∀ j k, e (k + j) = sumF (fun d => cIt R c A j d * v d k) R
 | 0, k => h.mix k
 | j + 1, k => by
  rw [show k + (j + 1) = k + 1 + j by omega, h.it j (k + 1), sumF_congr (g := fun d => sumF (fun d' => cIt R c A j d * (A d d' * v d' k)) R) fun d hd => by rw [h.turn d hd, sumF_mul], sumF_swap]
  refine sumF_congr fun d' _ => ?_
  show _ = sumF _ R * v d' k
  rw [Rat.mul_comm, ← sumF_mul]
  exact sumF_congr fun d _ => by grind
theorem OrdR.rule {R : Nat} {e c : Nat → Rat} {A v : Nat → Nat → Rat} (h : OrdR R e c A v) : ∃ y : Nat → Rat, (∃ j, j ≤ R ∧ y j ≠ 0) ∧ ∀ k, sumF (fun j => y j * e (k + j)) (R + 1) = 0 := by
 obtain ⟨y, hy, hd⟩ := dep R (cIt R c A)
 refine ⟨y, hy, fun k => ?_⟩
 rw [sumF_congr (g := fun j => sumF (fun d => y j * (cIt R c A j d * v d k)) R) fun j _ => by rw [h.it j k, sumF_mul], sumF_swap, sumF_congr (g := fun _ => 0) fun d hd' => ?_, sumF_zero]
 rw [sumF_congr (g := fun j => v d k * (y j * cIt R c A j d)) fun j _ => by grind, sumF_mul, hd d hd']
 grind
theorem OrdR.zero {R : Nat} {e c : Nat → Rat} {A v : Nat → Nat → Rat} (h : OrdR R e c A v) (z : ∀ k, k < R → e k = 0) : ∀ k, e k = 0 := by
 obtain ⟨y, ⟨j0, hj0, hy0⟩, hr⟩ := h.rule
 -- the last of them that isn't 0
 have last : ∃ m, m ≤ R ∧ y m ≠ 0 ∧ ∀ j, m < j → j ≤ R → y j = 0 := by
  have key : ∀ t, t ≤ R → (∀ j, R - t < j → j ≤ R → y j = 0) ∨ ∃ m, m ≤ R ∧ y m ≠ 0 ∧ ∀ j, m < j → j ≤ R → y j = 0 := by
   intro t
   induction t with
   | zero => exact fun _ => .inl fun j a b => by omega
   | succ t ih =>
    intro ht
    rcases ih (by omega) with a | a
    · by_cases w : y (R - t) = 0
      · refine .inl fun j h1 h2 => ?_
        by_cases q : j = R - t
        · rw [q]; exact w
        · exact a j (by omega) h2
      · exact .inr ⟨R - t, by omega, w, a⟩
    · exact .inr a
  rcases key R (Nat.le_refl _) with a | a
  · by_cases w : y 0 = 0
    · exfalso
      by_cases q : j0 = 0
      · rw [q] at hy0; exact hy0 w
      · exact hy0 (a j0 (by omega) hj0)
    · exact ⟨0, Nat.zero_le _, w, fun j h1 h2 => a j (by omega) h2⟩
  · exact a
 obtain ⟨m, hm, ym, yz⟩ := last
 intro k
 induction k using Nat.strongRecOn with
 | ind k ih =>
  by_cases hk : k < R
  · exact z k hk
  · have s := hr (k - m)
    rw [sumF_one (f := fun j => y j * e (k - m + j)) (i := m) (n := R + 1) (by omega) fun j hj hjm => by
     rcases Nat.lt_or_gt_of_ne hjm with q | q
     · rw [ih (k - m + j) (by omega)]; grind
     · rw [yz j q (by omega)]; grind, show k - m + m = k by omega] at s
    rcases Rat.mul_eq_zero.mp s with q | q
    · exact absurd q ym
    · exact q
theorem OrdR.great {R n : Nat} {e c : Nat → Rat} {A v : Nat → Nat → Rat} (h : OrdR R e c A v) (hn : R < n) : dt n (fun i j => e (i + j)) = 0 := by
 obtain ⟨y, ⟨j0, hj0, hy0⟩, hr⟩ := h.rule
 refine ker_dt (x := fun j => if j ≤ R then y j else 0) (fun i _ => ?_) (j := j0) (by omega) (by rw [if_pos hj0]; exact hy0)
 have e0 := hr i
 show sumF (fun j => e (i + j) * (if j ≤ R then y j else 0)) n = 0
 rw [sumF_more (m := R + 1) (by omega) fun j h1 _ => by rw [if_neg (by omega)]; grind]
 rw [← e0]
 refine sumF_congr fun j hj => ?_
 rw [if_pos (by omega)]
 grind
end Ow
namespace Ow
open PySem PySem.Spec PySem.SeqAt PyProof.Rows L2
theorem sumF_app (f : Nat → Rat) (a : Nat) : ∀ b, sumF f (a + b) = sumF f a + sumF (fun i => f (a + i)) b
 | 0 => by show sumF f a = sumF f a + 0; grind
 | b + 1 => by
  show sumF f (a + b) + f (a + b) = sumF f a + (sumF _ b + f (a + b))
  rw [sumF_app f a b]
  grind
theorem OrdR.diff {R1 R2 : Nat} {e1 e2 c1 c2 : Nat → Rat} {A1 A2 v1 v2 : Nat → Nat → Rat} (h1 : OrdR R1 e1 c1 A1 v1) (h2 : OrdR R2 e2 c2 A2 v2) : ∃ c A v, OrdR (R1 + R2) (fun k => e1 k - e2 k) c A v := by
 refine ⟨fun d => if d < R1 then c1 d else - c2 (d - R1), fun d d' => if d < R1 then (if d' < R1 then A1 d d' else 0) else if d' < R1 then 0 else A2 (d - R1) (d' - R1), fun d => if d < R1 then v1 d else v2 (d - R1), fun k => ?_, fun d hd k => ?_⟩
 · rw [sumF_app]
   show e1 k - e2 k = _
   rw [h1.mix k, h2.mix k, sumF_congr (n := R1) (f := fun d => (if d < R1 then c1 d else - c2 (d - R1)) * (if d < R1 then v1 d else v2 (d - R1)) k) (g := fun d => c1 d * v1 d k) fun d hd => by rw [if_pos hd, if_pos hd], sumF_congr (n := R2) (f := fun i => (if R1 + i < R1 then c1 (R1 + i) else - c2 (R1 + i - R1)) * (if R1 + i < R1 then v1 (R1 + i) else v2 (R1 + i - R1)) k) (g := fun d => (-1) * (c2 d * v2 d k)) fun d hd => by rw [if_neg (by omega), if_neg (by omega), Nat.add_sub_cancel_left]; grind, sumF_mul]
   grind
 · rw [sumF_app]
   by_cases y : d < R1
   · show (if d < R1 then v1 d else v2 (d - R1)) (k + 1) = _
     rw [if_pos y, h1.turn d y k, sumF_congr (n := R1) (f := fun d' => (if d < R1 then (if d' < R1 then A1 d d' else 0) else if d' < R1 then 0 else A2 (d - R1) (d' - R1)) * (if d' < R1 then v1 d' else v2 (d' - R1)) k) (g := fun d' => A1 d d' * v1 d' k) fun d' hd' => by rw [if_pos y, if_pos hd', if_pos hd'], sumF_congr (n := R2) (g := fun _ => 0) fun d' hd' => by rw [if_pos y, if_neg (by omega)]; grind, sumF_zero]
     grind
   · show (if d < R1 then v1 d else v2 (d - R1)) (k + 1) = _
     rw [if_neg y, h2.turn (d - R1) (by omega) k, sumF_congr (n := R1) (g := fun _ => 0) fun d' hd' => by rw [if_neg y, if_pos hd']; grind, sumF_zero, sumF_congr (n := R2) (f := fun i => (if d < R1 then (if R1 + i < R1 then A1 d (R1 + i) else 0) else if R1 + i < R1 then 0 else A2 (d - R1) (R1 + i - R1)) * (if R1 + i < R1 then v1 (R1 + i) else v2 (R1 + i - R1)) k) (g := fun d' => A2 (d - R1) d' * v2 d' k) fun d' hd' => by rw [if_neg y, if_neg (by omega), if_neg (by omega), Nat.add_sub_cancel_left]]
     grind
def dsc (m : List MRow) (d : Nat) : Nat := (discs m).getD d 0
theorem dsc_ok {m : List MRow} {d : Nat} (h : d < (discs m).length) : dsc m d < m.length ∧ (m.getD (dsc m d) default).isDisc = true := by
 unfold dsc
 rw [List.getD_eq_getElem?_getD, List.getElem?_eq_getElem h]
 exact mem_discsL.mp (List.getElem_mem h)
theorem dsc_of {m : List MRow} {i : Nat} (hi : i < m.length) (hd : (m.getD i default).isDisc = true) : ∃ d, d < (discs m).length ∧ dsc m d = i := by
 obtain ⟨d, h, e⟩ := List.getElem_of_mem (mem_discsL.mpr ⟨hi, hd⟩)
 refine ⟨d, h, ?_⟩
 unfold dsc
 rw [List.getD_eq_getElem?_getD, List.getElem?_eq_getElem h]
 exact e
theorem mixed {m : List MRow} (hm : Mach m) (he : evenB m = true) {T : Nat → Nat → Rat} (hT : Turn m T) : ∀ j, j ≤ m.length → ∀ i ∈ ordN m j, ∃ c : Nat → Rat, ∀ k, wt (T i) (k + 2) = sumF (fun d => c d * wt (T (dsc m d)) (k + 2)) (discs m).length := by
 intro j
 induction j with
 | zero => intro _ i hi; cases hi
 | succ j ih =>
  intro hj i hi
  obtain ⟨o1, o2, o3⟩ := ordN_ok hm j (by omega)
  obtain ⟨a, l, hca⟩ := List.exists_cons_of_ne_nil (rdy_some hm o2 o3 (by omega))
  have ho : ordN m (j + 1) = ordN m j ++ [a] := by
   show ordN m j ++ _ = _
   rw [hca]; rfl
  have ha : a ∈ rdy m (ordN m j) := by rw [hca]; simp
  obtain ⟨ha1, ha2, ha3⟩ := mem_rdy.mp ha
  have ih := ih (by omega)
  rw [ho] at hi
  rcases List.mem_append.mp hi with h | h
  · exact ih i h
  · have e2 := List.mem_singleton.mp h
    subst e2
    have hdr := ha3
    unfold drvs at hdr
    cases hr : m.getD i default with
    | source s =>
     refine ⟨fun _ => 0, fun k => ?_⟩
     rw [wt_src hT ha1 (by rw [hr]; rfl) (k + 1), if_neg (by omega), sumF_congr (g := fun _ => 0) fun d _ => by grind, sumF_zero]
    | gear s q d =>
     rw [hr] at hdr
     obtain ⟨c, hc⟩ := ih d (hdr d (by simp [MRow.drv]))
     refine ⟨fun d => q * c d, fun k => ?_⟩
     rw [wt_gear hT ha1 hr (k + 1), hc k, ← sumF_mul]
     exact sumF_congr fun d _ => by grind
    | adder s x y =>
     rw [hr] at hdr
     obtain ⟨c1, h1⟩ := ih x (hdr x (by simp [MRow.drv]))
     obtain ⟨c2, h2⟩ := ih y (hdr y (by simp [MRow.drv]))
     refine ⟨fun d => c1 d + c2 d, fun k => ?_⟩
     rw [wt_adder hT ha1 hr (k + 1), h1 k, h2 k, ← sumF_add]
     exact sumF_congr fun d _ => by grind
    | disc s w d =>
     obtain ⟨d0, hd0, e0⟩ := dsc_of ha1 (by rw [hr]; rfl)
     refine ⟨fun d => if d = d0 then 1 else 0, fun k => ?_⟩
     show _ = sumF (fun d => (if d = d0 then 1 else 0) * wt (T (dsc m d)) (k + 2)) _
     rw [sumF_one (f := fun d => (if d = d0 then 1 else 0) * wt (T (dsc m d)) (k + 2)) (i := d0) hd0 fun d _ hne => by rw [if_neg hne]; grind, if_pos rfl, e0]
     grind
theorem mixed_all {m : List MRow} (hm : Mach m) (he : evenB m = true) {T : Nat → Nat → Rat} (hT : Turn m T) : ∃ C : Nat → Nat → Rat, ∀ i, i < m.length → ∀ k, wt (T i) (k + 2) = sumF (fun d => C i d * wt (T (dsc m d)) (k + 2)) (discs m).length := by
 have h : ∀ i, ∃ c : Nat → Rat, i < m.length → ∀ k, wt (T i) (k + 2) = sumF (fun d => c d * wt (T (dsc m d)) (k + 2)) (discs m).length := fun i => by
  by_cases hi : i < m.length
  · obtain ⟨c, hc⟩ := mixed hm he hT m.length (Nat.le_refl _) i (rdy_all hm (rdy_end hm) i hi)
    exact ⟨c, fun _ => hc⟩
  · exact ⟨fun _ => 0, fun h => absurd h hi⟩
 exact ⟨fun i => Classical.choose (h i), fun i => Classical.choose_spec (h i)⟩
def vD (m : List MRow) (T : Nat → Nat → Rat) (d k : Nat) : Rat := wt (T (dsc m d)) (k + 2)
theorem shaft_ord {m : List MRow} (hm : Mach m) (he : evenB m = true) {T : Nat → Nat → Rat} (hT : Turn m T) : ∃ A, ∀ i, i < m.length → ∃ c, OrdR (discs m).length (fun k => wt (T i) (k + 2)) c A (vD m T) := by
 obtain ⟨C, hC⟩ := mixed_all hm he hT
 refine ⟨fun d d' => C (m.getD (dsc m d) default).mid d', fun i hi => ⟨C i, fun k => hC i hi k, fun d hd k => ?_⟩⟩
 obtain ⟨h1, h2⟩ := dsc_ok hd
 show wt (T (dsc m d)) (k + 1 + 2) = _
 cases hr : m.getD (dsc m d) default with
 | disc s w d' =>
  rw [show k + 1 + 2 = (k + 2) + 1 by omega, wt_disc hm he hT h1 hr (k + 2)]
  exact hC w (hm.whl _ s w d' (by rw [hm.at h1, hr])) k
 | _ => rw [hr] at h2; cases h2
theorem alike {m n : List MRow} (hm : Mach m) (he : evenB m = true) {T : Nat → Nat → Rat} (hT : Turn m T) (hn : Mach n) (hen : evenB n = true) {U : Nat → Nat → Rat} (hU : Turn n U) {i j : Nat} (hi : i < m.length) (hj : j < n.length) (h : ∀ k, k < (discs m).length + (discs n).length + 2 → T i k = U j k) : ∀ k, T i k = U j k := by
 obtain ⟨A1, h1⟩ := shaft_ord hm he hT
 obtain ⟨A2, h2⟩ := shaft_ord hn hen hU
 obtain ⟨c1, o1⟩ := h1 i hi
 obtain ⟨c2, o2⟩ := h2 j hj
 obtain ⟨c, A, v, o⟩ := o1.diff o2
 have z := o.zero fun k hk => by
  show ((ft (k + 2) : Int) : Rat) * T i (k + 2) - ((ft (k + 2) : Int) : Rat) * U j (k + 2) = 0
  rw [h (k + 2) (by omega)]
  grind
 intro k
 by_cases hk : k < 2
 · exact h k (by omega)
 · have e := z (k - 2)
   rw [show k - 2 + 2 = k by omega] at e
   have e : ((ft k : Int) : Rat) * T i k - ((ft k : Int) : Rat) * U j k = 0 := e
   have f0 : ((ft k : Int) : Rat) ≠ 0 := cast_pos_ne (ft_pos k)
   have : ((ft k : Int) : Rat) * (T i k - U j k) = 0 := by grind
   rcases Rat.mul_eq_zero.mp this with q | q
   · exact absurd q f0
   · grind
theorem dt_unitcol {n i : Nat} {u : Nat → Rat} {A : Nat → Nat → Rat} (hi : i < n) (h : ∀ a b, a < n → b < n → A a b = if b = i then u a else if a = b then 1 else 0) : dt n A = u i := by
 by_cases z : u i = 0
 · rw [z, dt_row0 hi fun b hb => ?_]
   rw [h i b hi hb]
   by_cases e : b = i
   · rw [if_pos e]; exact z
   · rw [if_neg e, if_neg (Ne.symm e)]
 · rw [← dt_pluss hi (fun a => if a = i then 0 else - (u a / u i)) (if_pos rfl) A]
   have e := dt_peels n (m := 0) (A := fun a b => A a b + (if a = i then 0 else - (u a / u i)) * A i b) fun a b hb hab ha => by
    rw [h a b (by omega) hb, h i b hi hb]
    by_cases e1 : b = i
    · rw [if_pos e1, if_pos e1, if_neg (by omega)]
      grind
    · rw [if_neg e1, if_neg e1, if_neg (by omega), if_neg (Ne.symm e1)]
      grind
   rw [Nat.add_zero] at e
   rw [e]
   have d : ∀ k, k ≤ n → dgP (fun a b => A a b + (if a = i then 0 else - (u a / u i)) * A i b) k = if i < k then u i else 1 := by
    intro k
    induction k with
    | zero => intro _; rw [if_neg (by omega)]; rfl
    | succ k ih =>
     intro hk
     show dgP _ k * (A k k + _ * A i k) = _
     rw [ih (by omega), h k k (by omega) (by omega), h i k hi (by omega)]
     by_cases e1 : k = i
     · subst e1
       rw [if_pos rfl, if_pos rfl, if_neg (by omega), if_pos (by omega)]
       grind
     · rw [if_neg e1, if_neg e1, if_pos rfl, if_neg e1, if_neg (Ne.symm e1)]
       by_cases e2 : i < k
       · rw [if_pos e2, if_pos (by omega)]; grind
       · rw [if_neg e2, if_neg (by omega)]; grind
   rw [d n (Nat.le_refl _), if_pos hi]
   show _ * (1 : Rat) = _
   grind
structure Gj (n k : Nat) (B M : Nat → Nat → Rat) (P : Rat) : Prop where
 p0 : P ≠ 0
 same : ∀ (m : Nat) (ρ c : Nat → Nat), (∀ a, a < k → ρ a = a) → (∀ a, k ≤ a → a < m → k ≤ ρ a ∧ ρ a < n) → k ≤ m → P * dt m (fun a b => M (ρ a) (c b)) = dt m (fun a b => B (ρ a) (c b))
 unit : ∀ i j, i < n → j < k → M i j = if i = j then 1 else 0
theorem Gj.zero (n : Nat) (B : Nat → Nat → Rat) : Gj n 0 B B 1 := ⟨by decide, fun _ _ _ _ _ _ => by grind, fun _ _ _ h => by omega⟩
theorem trp_ge {i k a : Nat} (hk : k ≤ i) (h : k ≤ a) : k ≤ trp i k a := by unfold trp; split <;> (try split) <;> omega
theorem trp_le {i k a : Nat} (hk : k ≤ i) (h : a < k) : trp i k a = a := by unfold trp; rw [if_neg (by omega), if_neg (by omega)]
theorem Gj.swap {n k i : Nat} {B M : Nat → Nat → Rat} {P : Rat} (h : Gj n k B M P) (hk : k ≤ i) (hi : i < n) : Gj n k (swR B k i) (swR M k i) P := by
 refine ⟨h.p0, fun m ρ c h1 h2 h3 => ?_, fun a b ha hb => ?_⟩
 · have e := h.same m (fun a => trp i k (ρ a)) c (fun a ha => by
    show trp i k (ρ a) = a
    rw [h1 a ha, trp_le hk ha]) (fun a a1 a2 => ⟨trp_ge hk (h2 a a1 a2).1, trp_lt hi (by omega) (h2 a a1 a2).2⟩) h3
   rw [dt_congr fun a b _ _ => swR_trp (A := M) (ρ a) (c b), dt_congr fun a b _ _ => swR_trp (A := B) (ρ a) (c b)]
   exact e
 · rw [swR_trp]
   rcases Nat.lt_or_ge a k with y | y
   · rw [trp_le hk y]; exact h.unit a b ha hb
   · rw [h.unit _ b (trp_lt hi (by omega) ha) hb, if_neg (by have := trp_ge hk y; omega), if_neg (by omega)]
noncomputable def gjR (M : Nat → Nat → Rat) (k : Nat) (i j : Nat) : Rat := if i = k then M k j / M k k else M i j - M i k * (M k j / M k k)
theorem Gj.step {n k : Nat} {B M : Nat → Nat → Rat} {P : Rat} (h : Gj n k B M P) (hk : k < n) (p : M k k ≠ 0) : Gj n (k + 1) B (gjR M k) (P * M k k) := by
 refine ⟨mul_ne0 h.p0 p, fun m ρ c h1 h2 h3 => ?_, fun i j hi hj => ?_⟩
 · rw [← h.same m ρ c (fun a ha => h1 a (by omega)) (fun a a1 a2 => by
    by_cases e : a = k
    · rw [e, h1 k (by omega)]; omega
    · have := h2 a (by omega) a2; omega) (by omega)]
   have rk : ρ k = k := h1 k (by omega)
   have e1 := dt_often (n := m) (i := k) (by omega) (1 / M k k) fun a b => M (ρ a) (c b)
   have e2 := dt_pluss (n := m) (k := k) (by omega) (fun a => if a = k then 0 else - M (ρ a) k) (if_pos rfl) (stR (fun a b => M (ρ a) (c b)) k fun b => 1 / M k k * M (ρ k) (c b))
   have e3 : dt m (fun a b => gjR M k (ρ a) (c b)) = dt m fun a b => stR (fun a b => M (ρ a) (c b)) k (fun b => 1 / M k k * M (ρ k) (c b)) a b + (if a = k then 0 else - M (ρ a) k) * stR (fun a b => M (ρ a) (c b)) k (fun b => 1 / M k k * M (ρ k) (c b)) k b := dt_congr fun a b ha _ => by
    unfold gjR stR
    rw [rk]
    by_cases e : a = k
    · subst e
      rw [rk, if_pos rfl, if_pos rfl, if_pos rfl]
      grind
    · have nk : ρ a ≠ k := by
       rcases Nat.lt_or_ge a (k + 1) with y | y
       · rw [h1 a y]; exact e
       · have := h2 a y ha; omega
      rw [if_neg nk, if_neg e, if_neg e, if_pos rfl]
      grind
   rw [e3, e2, e1]
   grind
 · unfold gjR
   by_cases e : i = k
   · subst e
     rw [if_pos rfl]
     by_cases e2 : j = i
     · subst e2
       rw [if_pos rfl]; grind
     · rw [h.unit i j hk (by omega)]
       rw [if_neg (Ne.symm e2)]; grind
   · rw [if_neg e]
     by_cases e2 : j = k
     · subst e2
       rw [if_neg e]; grind
     · rw [h.unit i j hi (by omega), h.unit k j hk (by omega)]
       have : (if k = j then (1 : Rat) else 0) = 0 := if_neg (Ne.symm e2)
       rw [this]
       grind
theorem Gj.det {n k : Nat} {B M : Nat → Nat → Rat} {P : Rat} (h : Gj n k B M P) (hk : k ≤ n) : dt k B = P := by
 have e := h.same k id id (fun a _ => rfl) (fun a a1 a2 => by omega) (Nat.le_refl _)
 have u : dt k (fun a b => M (id a) (id b)) = 1 := by
  have e := dt_peels k (m := 0) (A := M) fun a b hb hab ha => by rw [h.unit a b (by omega) hb, if_neg (by omega)]
  rw [Nat.add_zero] at e
  have d : ∀ j, j ≤ k → dgP M j = 1 := by
   intro j
   induction j with
   | zero => intro _; rfl
   | succ j ih =>
    intro hj
    show dgP M j * M j j = 1
    rw [ih (by omega), h.unit j j (by omega) (by omega), if_pos rfl]
    grind
  show dt k M = 1
  rw [e, d k (Nat.le_refl _)]
  show (1 : Rat) * 1 = 1
  grind
 rw [u] at e
 have e : P * 1 = dt k B := e
 grind
theorem Gj.up {n k : Nat} {B M : Nat → Nat → Rat} {P : Rat} (h : Gj n k B M P) (hk : k ≤ n) {i : Nat} (hi : i < k) (j : Nat) : P * M i j = dt k fun a b => B a (if b = i then j else b) := by
 have e0 : P * dt k (fun a b => M a (if b = i then j else b)) = dt k fun a b => B a (if b = i then j else b) := h.same k id (fun b => if b = i then j else b) (fun a _ => rfl) (fun a a1 a2 => by omega) (Nat.le_refl _)
 have e := dt_unitcol (n := k) (u := fun a => M a j) (A := fun a b => M a (if b = i then j else b)) hi fun a b ha hb => by
  by_cases e : b = i
  · rw [if_pos e, if_pos e]
  · rw [if_neg e, if_neg e, h.unit a b (by omega) hb]
 rw [← e0, e]
theorem Gj.low {n k : Nat} {B M : Nat → Nat → Rat} {P : Rat} (h : Gj n k B M P) {i : Nat} (hi : k ≤ i) (hin : i < n) {j : Nat} : P * M i j = dt (k + 1) fun a b => B (if a < k then a else i) (if b < k then b else j) := by
 rw [← h.same (k + 1) (fun a => if a < k then a else i) (fun b => if b < k then b else j) (fun a ha => if_pos ha) (fun a a1 a2 => by
  show k ≤ (if a < k then a else i) ∧ (if a < k then a else i) < n
  rw [if_neg (by omega)]; omega) (by omega)]
 rw [dt_peels k (m := 1) fun a b hb hab ha => by
  rw [if_pos hb, h.unit _ b (by split <;> omega) hb, if_neg (by split <;> omega)]]
 have d : ∀ j', j' ≤ k → dgP (fun a b => M (if a < k then a else i) (if b < k then b else j)) j' = 1 := by
  intro j'
  induction j' with
  | zero => intro _; rfl
  | succ j' ih =>
   intro hj
   show dgP _ j' * M (if j' < k then j' else i) (if j' < k then j' else j) = 1
   rw [ih (by omega), if_pos (by omega), if_pos (by omega), h.unit j' j' (by omega) (by omega), if_pos rfl]
   grind
 rw [d k (Nat.le_refl _)]
 show _ = P * (1 * ((0 : Rat) + 1 * M (if k + 0 < k then _ else i) (if k + 0 < k then _ else j) * 1))
 rw [if_neg (by omega), if_neg (by omega)]
 grind
theorem Gj.lead {n k : Nat} {B M : Nat → Nat → Rat} {P : Rat} (h : Gj n k B M P) (hk : k < n) (hd : dt n B ≠ 0) : ∃ i, k ≤ i ∧ i < n ∧ M i k ≠ 0 := by
 refine Classical.byContradiction fun q => hd ?_
 have z : ∀ i, k ≤ i → i < n → M i k = 0 := fun i a b => Classical.byContradiction fun y => q ⟨i, a, b, y⟩
 have e := h.same n id id (fun a _ => rfl) (fun a a1 a2 => ⟨a1, a2⟩) (by omega)
 have e : P * dt n M = dt n B := e
 have p := dt_peels k (m := n - k) (A := M) fun a b hb hab ha => by rw [h.unit a b (by omega) hb, if_neg (by omega)]
 rw [show k + (n - k) = n by omega] at p
 rw [← e, p, dt_col0 (by omega) fun a ha => z (k + a) (by omega) (by omega)]
 grind
end Ow
namespace Ow
open PySem PySem.Spec PySem.SeqAt PyProof.Rows L2
def stC (A : Nat → Nat → Rat) (i : Nat) (u : Nat → Rat) : Nat → Nat → Rat := fun a b => if b = i then u a else A a b
theorem dt_clin : ∀ {n i : Nat} {A : Nat → Nat → Rat} {u v : Nat → Rat} (c : Rat), i < n → dt n (stC A i fun a => u a + c * v a) = dt n (stC A i u) + c * dt n (stC A i v)
 | n + 1, i, A, u, v, c, hi => by
  show sumF _ _ = sumF _ _ + c * sumF _ _
  rw [← sumF_mul, ← sumF_add]
  refine sumF_congr fun j hj => ?_
  by_cases e : j = i
  · subst e
    have same : ∀ w : Nat → Rat, (dt n fun a b => stC A j w (a + 1) (skp j b)) = dt n fun a b => A (a + 1) (skp j b) := fun w => dt_congr fun a b _ _ => by
     unfold stC
     rw [if_neg (by unfold skp; split <;> omega)]
    rw [same, same, same]
    show sg j * (if j = j then _ else _) * _ = sg j * (if j = j then _ else _) * _ + c * (sg j * (if j = j then _ else _) * _)
    rw [if_pos rfl, if_pos rfl, if_pos rfl]
    grind
  · have h0 : ∀ w : Nat → Rat, stC A i w 0 j = A 0 j := fun w => if_neg e
    obtain ⟨i', hi', e'⟩ : ∃ i', i' < n ∧ ∀ b, skp j b = i ↔ b = i' := by
     by_cases q : i < j
     · exact ⟨i, by omega, fun b => by unfold skp; split <;> omega⟩
     · exact ⟨i - 1, by omega, fun b => by unfold skp; split <;> omega⟩
    have mn : ∀ w : Nat → Rat, (dt n fun a b => stC A i w (a + 1) (skp j b)) = dt n (stC (fun a b => A (a + 1) (skp j b)) i' fun a => w (a + 1)) := fun w => dt_congr fun a b _ _ => by
     unfold stC
     by_cases q : b = i'
     · rw [if_pos ((e' b).mpr q), if_pos q]
     · rw [if_neg (fun h => q ((e' b).mp h)), if_neg q]
    rw [h0, h0, h0, mn, mn, mn, dt_clin (n := n) (i := i') (u := fun a => u (a + 1)) (v := fun a => v (a + 1)) c hi']
    grind
theorem dt_calike {n i k : Nat} {A : Nat → Nat → Rat} (hi : i < n) (hk : k < n) (ik : i ≠ k) (h : ∀ a, a < n → A a i = A a k) : dt n A = 0 := by
 refine ker_dt (x := fun j => if j = i then 1 else if j = k then -1 else 0) (fun a ha => ?_) hi (by rw [if_pos rfl]; decide)
 show sumF (fun j => A a j * (if j = i then 1 else if j = k then -1 else 0)) n = 0
 have e : ∀ j, A a j * (if j = i then (1 : Rat) else if j = k then -1 else 0) = (if j = i then A a i else 0) + if j = k then - A a k else 0 := fun j => by
  by_cases q : j = i
  · rw [if_pos q, if_pos q, if_neg (by omega), q]; grind
  · rw [if_neg q, if_neg q]
    by_cases q2 : j = k
    · rw [if_pos q2, if_pos q2, q2]; grind
    · rw [if_neg q2, if_neg q2]; grind
 rw [sumF_congr fun j _ => e j, sumF_add, sumF_one (f := fun j => if j = i then A a i else 0) hi fun j _ q => if_neg q, sumF_one (f := fun j => if j = k then - A a k else 0) hk fun j _ q => if_neg q, if_pos rfl, if_pos rfl, h a ha]
 grind
theorem cramer_mix {n i : Nat} {S : Nat → Nat → Rat} {x b : Nat → Rat} (hi : i < n) (h : ∀ a, a < n → b a = sumF (fun j => S a j * x j) n) : dt n (fun a c => if c = i then b a else S a c) = x i * dt n S := by
 have step : ∀ m, m ≤ n → dt n (stC S i fun a => sumF (fun j => S a j * x j) m) = if i < m then x i * dt n S else 0 := by
  intro m
  induction m with
  | zero =>
   intro _
   rw [if_neg (by omega)]
   exact dt_colc hi fun a _ => if_pos rfl
  | succ m ih =>
   intro hm
   have e : (stC S i fun a => sumF (fun j => S a j * x j) (m + 1)) = stC S i fun a => sumF (fun j => S a j * x j) m + x m * S a m := by
    funext a c
    unfold stC
    show (if c = i then sumF _ m + S a m * x m else _) = _
    rw [Rat.mul_comm (S a m)]
   rw [e, dt_clin _ hi, ih (by omega)]
   by_cases q : m = i
   · subst q
     rw [if_neg (by omega), if_pos (by omega), dt_congr (A := stC S m fun a => S a m) (B := S) fun a c _ _ => by
      unfold stC
      by_cases w : c = m
      · rw [if_pos w, w]
      · rw [if_neg w]]
     grind
   · rw [dt_calike (A := stC S i fun a => S a m) hi (by omega : m < n) (Ne.symm q) fun a _ => by
      unfold stC
      rw [if_pos rfl, if_neg q]]
     by_cases w : i < m
     · rw [if_pos w, if_pos (by omega)]; grind
     · rw [if_neg w, if_neg (by omega)]; grind
 have e := step n (Nat.le_refl _)
 rw [if_pos hi] at e
 rw [← e]
 refine dt_congr fun a c ha _ => ?_
 unfold stC
 by_cases q : c = i
 · rw [if_pos q, if_pos q, h a ha]
 · rw [if_neg q, if_neg q]
def Rule (r : Nat) (x e : Nat → Rat) : Prop := ∀ k, e (k + r) = sumF (fun j => x j * e (k + j)) r
theorem Rule.zero {r : Nat} {x f : Nat → Rat} (h : Rule r x f) (z : ∀ k, k < r → f k = 0) : ∀ k, f k = 0 := by
 intro k
 induction k using Nat.strongRecOn with
 | ind k ih =>
  by_cases hk : k < r
  · exact z k hk
  · have := h (k - r)
    rw [show k - r + r = k by omega] at this
    rw [this, sumF_congr (g := fun _ => 0) fun j hj => by rw [ih _ (by omega)]; grind, sumF_zero]
theorem Rule.mix {r n : Nat} {x e z : Nat → Rat} (h : Rule r x e) : Rule r x fun i => sumF (fun j => e (i + j) * z j) n := fun k => by
 show sumF (fun j => e (k + r + j) * z j) n = sumF (fun j => x j * sumF (fun l => e (k + j + l) * z l) n) r
 rw [sumF_congr (g := fun l => sumF (fun j => x j * (e (k + j + l) * z l)) r) fun l _ => by
  rw [show k + r + l = k + l + r by omega, h (k + l), Rat.mul_comm, ← sumF_mul]
  exact sumF_congr fun j _ => by rw [show k + l + j = k + j + l by omega]; grind, sumF_swap]
 exact sumF_congr fun j _ => by rw [sumF_mul]
end Ow
namespace Ow
open PySem PySem.Spec PySem.SeqAt PyProof.Rows L2
def mxS (g : Nat → Rat) : List (Rat × Nat) → Rat
 | [] => 0
 | p :: ps => p.1 * g p.2 + mxS g ps
def pmG (R : List MRow) (p : Rat × Nat) : List MRow × Nat := if p.1 = 1 then (R, p.2) else (R ++ [.gear 0 p.1 p.2], R.length)
def pmA (R : List MRow) (h : Nat) : Option Nat → List MRow × Option Nat
 | none => (R, some h)
 | some f => (R ++ [.adder 0 f h], some R.length)
def pmS (rf : List MRow × Option Nat) (p : Rat × Nat) : List MRow × Option Nat := if p.1 = 0 then rf else pmA (pmG rf.1 p).1 (pmG rf.1 p).2 rf.2
def pmE (rf : List MRow × Option Nat) : List MRow × Nat := match rf.2 with
 | none => (rf.1 ++ [.gear 0 0 0], rf.1.length)
 | some f => (rf.1, f)
def pm (R : List MRow) (ps : List (Rat × Nat)) : List MRow × Nat := pmE (ps.foldl pmS (R, none))
structure Ext (b : Nat) (P : Rat → Prop) (R0 R : List MRow) : Prop where
 len : R0.length ≤ R.length
 old : ∀ i, i < R0.length → R[i]? = R0[i]?
 new : ∀ i r, R0.length ≤ i → R[i]? = some r → (∃ (q : Rat) (d : Nat), r = .gear 0 q d ∧ d < i ∧ P q) ∨ (∃ x y : Nat, r = .adder 0 x y ∧ x < i ∧ y < i)
theorem Ext.refl (b : Nat) (P : Rat → Prop) (R : List MRow) : Ext b P R R := ⟨Nat.le_refl _, fun _ _ => rfl, fun i r h e => by have := (List.getElem?_eq_some_iff.mp e).1; omega⟩
def Val (b : Nat) (R : List MRow) (f : Nat) (ps : List (Rat × Nat)) : Prop := ∀ (M : List MRow) (T : Nat → Nat → Rat), Turn M T → (∀ i, b ≤ i → i < R.length → M[i]? = R[i]?) → (∀ j, j < b → T j 0 = 0) → T f 0 = 0 ∧ ∀ k, wt (T f) (k + 1) = mxS (fun s => wt (T s) (k + 1)) ps
theorem Val.more {b : Nat} {R R' : List MRow} {f : Nat} {ps : List (Rat × Nat)} (h : Val b R f ps) (hl : R.length ≤ R'.length) (ho : ∀ i, i < R.length → R'[i]? = R[i]?) : Val b R' f ps := fun M T hT hM h0 => h M T hT (fun i h1 h2 => by rw [hM i h1 (by omega), ho i h2]) h0
theorem Val.congr {b : Nat} {R : List MRow} {f : Nat} {ps qs : List (Rat × Nat)} (h : Val b R f ps) (e : ∀ g, mxS g ps = mxS g qs) : Val b R f qs := fun M T hT hM h0 => ⟨(h M T hT hM h0).1, fun k => by rw [(h M T hT hM h0).2 k, e]⟩
end Ow
namespace Ow
open PySem PySem.Spec PySem.SeqAt PyProof.Rows L2
structure FlatR (m : List MRow) : Prop where
 src : ∃ t, m[0]? = some (.source t)
 row : ∀ i r, 0 < i → m[i]? = some r → (∃ (t : Rat) (w : Nat), r = .disc t w 0 ∧ w < m.length) ∨ (∃ (t a : Rat) (d : Nat), r = .gear t a d ∧ d < i) ∨ (∃ (t : Rat) (x y : Nat), r = .adder t x y ∧ x < i ∧ y < i)
theorem FlatR.mach {m : List MRow} (f : FlatR m) : Mach m := by
 obtain ⟨t, h0⟩ := f.src
 have l0 : 0 < m.length := (List.getElem?_eq_some_iff.mp h0).1
 refine ⟨l0, ⟨0, _, h0, fun i r hr hs => ?_⟩, ⟨fun i => i, fun i r hr d hd => ?_⟩, fun i s w k hr => ?_⟩
 · rcases Nat.eq_zero_or_pos i with h | h
   · exact h
   · rcases f.row i r h hr with ⟨_, _, rfl, _⟩ | ⟨_, _, _, rfl, _⟩ | ⟨_, _, _, rfl, _⟩ <;> cases hs
 · have il := (List.getElem?_eq_some_iff.mp hr).1
   rcases Nat.eq_zero_or_pos i with h | h
   · subst h
     rw [h0] at hr
     cases hr
     cases hd
   · rcases f.row i r h hr with ⟨_, _, rfl, _⟩ | ⟨_, _, e, rfl, hlt⟩ | ⟨_, x, y, rfl, h1, h2⟩
     · have : d = 0 := by simpa [MRow.drv] using hd
       exact ⟨by omega, show d < i by omega⟩
     · have : d = e := by simpa [MRow.drv] using hd
       exact ⟨by omega, show d < i by omega⟩
     · have hd : d = x ∨ d = y := by simpa [MRow.drv] using hd
       exact ⟨by omega, show d < i by omega⟩
 · rcases Nat.eq_zero_or_pos i with h | h
   · subst h
     rw [h0] at hr
     cases hr
   · rcases f.row i _ h hr with ⟨_, _, e, hw⟩ | ⟨_, _, _, e, _⟩ | ⟨_, _, _, e, _⟩
     · cases e; exact hw
     · cases e
     · cases e
theorem FlatR.even {m : List MRow} (f : FlatR m) : evenB m = true := by
 obtain ⟨t, h0⟩ := f.src
 refine List.all_eq_true.mpr fun i hi => ?_
 obtain ⟨h1, h2⟩ := mem_discsL.mp hi
 have hr := f.mach.at h1
 rcases Nat.eq_zero_or_pos i with h | h
 · subst h
   rw [h0] at hr
   have := Option.some.inj hr
   rw [← this] at h2
   cases h2
 · rcases f.row i _ h hr with ⟨_, _, e, hw⟩ | ⟨_, _, _, e, _⟩ | ⟨_, _, _, e, _⟩
   · rw [e]
     show (m.getD 0 default).isSrc = true
     rw [List.getD_eq_getElem?_getD, h0]
     rfl
   · rw [e] at h2; cases h2
   · rw [e] at h2; cases h2
theorem Val.on {b : Nat} {R R' : List MRow} {f : Nat} {ps : List (Rat × Nat)} (h : Val b R f ps) (hl : R.length ≤ R'.length) (ho : ∀ i, b ≤ i → i < R.length → R'[i]? = R[i]?) : Val b R' f ps := fun M T hT hM h0 => h M T hT (fun i h1 h2 => by rw [hM i h1 (by omega), ho i h1 h2]) h0
def lnD (w : Nat → Rat) (i t : Nat) : Rat := if t < 2 then 0 else w (t + i - 1)
end Ow
namespace Ow
open PySem PySem.Spec PySem.SeqAt PyProof.Rows L2
structure LnB (w x : Nat → Rat) (r D N C X K : Nat) : Prop where
 d0 : 0 < D
 c0 : 0 < C
 dn : D ≤ N
 cx : C ≤ X
 hw : ∀ k, k ≤ K → fb D N (w k)
 hx : ∀ j, j < r → fb C X (x j)
theorem LnB.w1 {w x : Nat → Rat} {r D N C X K k : Nat} (z : LnB w x r D N C X K) (hk : k ≤ K) : fb (C * D) (X * N) (w k) := by
 refine fb.up (z.hw k hk) (e := C) z.c0 ?_ (Nat.mul_comm _ _)
 rw [Nat.mul_comm]
 exact Nat.mul_le_mul_right _ z.cx
theorem LnB.one {w x : Nat → Rat} {r D N C X K : Nat} (z : LnB w x r D N C X K) {a : Int} (ha : a.natAbs ≤ 1) : fb (C * D) (X * N) (a : Rat) := by
 refine fb.up (fb.of_int a (M := 1) ha) (e := C * D) (Nat.mul_pos z.c0 z.d0) ?_ (Nat.one_mul _).symm
 rw [Nat.one_mul]
 exact Nat.mul_le_mul z.cx z.dn
theorem LnB.d1 {w x : Nat → Rat} {r D N C X K i t : Nat} (z : LnB w x r D N C X K) (h : t + i ≤ K + 1) : fb D N (lnD w i t) := by
 unfold lnD
 split
 · exact (fb.zero z.d0).mono (Nat.zero_le _)
 · exact z.hw _ (by omega)
end Ow
namespace Ow
open PySem PySem.Spec PySem.SeqAt PyProof.Rows L2
structure DpM (m : List MRow) (J : Nat) (dp : Nat → Nat) : Prop where
 le : ∀ i, i < m.length → dp i ≤ J
 gear : ∀ i s q d, i < m.length → m.getD i default = .gear s q d → dp d < dp i
 adder : ∀ i s x y, i < m.length → m.getD i default = .adder s x y → dp x < dp i ∧ dp y < dp i
structure DpI (b J : Nat) (dp : Nat → Nat) (R : List MRow) : Prop where
 lo : ∀ i, i < b → dp i = 0
 le : ∀ i, b ≤ i → i < R.length → dp i ≤ J
 gear : ∀ i s q d, b ≤ i → R[i]? = some (MRow.gear s q d) → dp d < dp i ∧ d < R.length
 adder : ∀ i s x y, b ≤ i → R[i]? = some (MRow.adder s x y) → dp x < dp i ∧ dp y < dp i ∧ x < R.length ∧ y < R.length
theorem DpI.mach {r J : Nat} {dp : Nat → Nat} {L m : List MRow} (D : DpI (r + 1) J dp L) (hl : m.length = L.length) (hlow : ∀ i, i < r + 1 → (∃ s, m.getD i default = .source s) ∨ ∃ s w k, m.getD i default = .disc s w k)
 (hs : ∀ i, r + 1 ≤ i → i < L.length → (∀ s q d, m.getD i default = .gear s q d → ∃ s', L[i]? = some (.gear s' q d)) ∧ ∀ s x y, m.getD i default = .adder s x y → ∃ s', L[i]? = some (.adder s' x y)) : DpM m J dp := by
 refine ⟨fun i hi => ?_, fun i s q d hi e => ?_, fun i s x y hi e => ?_⟩
 · by_cases h : i < r + 1
   · rw [D.lo i h]; exact Nat.zero_le _
   · exact D.le i (by omega) (by omega)
 · by_cases h : i < r + 1
   · rcases hlow i h with ⟨a, b⟩ | ⟨a, b, c, f⟩
     · rw [e] at b; cases b
     · rw [e] at f; cases f
   · obtain ⟨s', e'⟩ := (hs i (by omega) (by omega)).1 s q d e
     exact (D.gear i s' q d (by omega) e').1
 · by_cases h : i < r + 1
   · rcases hlow i h with ⟨a, b⟩ | ⟨a, b, c, f⟩
     · rw [e] at b; cases b
     · rw [e] at f; cases f
   · obtain ⟨s', e'⟩ := (hs i (by omega) (by omega)).2 s x y e
     obtain ⟨a, b, _⟩ := D.adder i s' x y (by omega) e'
     exact ⟨a, b⟩
end Ow
namespace Ow
open PySem PySem.Spec PySem.SeqAt PyProof.Rows L2
def kI (k : Nat) : Key := .inl (k : Int)
def kU (k : Nat) : KeyU := .inl (kI k)
def fdD (ks : List Nat) (f : Nat → Rat) : D := .fzd (ks.map kU) (ks.map fun k => enc (f k))
def dkD (ks : List Nat) (f : Nat → Rat) : D := .dK (ks.map fun k => (kI k, enc (f k)))
theorem kU_inj {a b : Nat} (h : kU a = kU b) : a = b := by
 unfold kU kI at h
 injection h with h
 injection h with h
 exact Int.ofNat.inj h
theorem kI_inj {a b : Nat} (h : kI a = kI b) : a = b := by
 unfold kI at h
 injection h with h
 exact Int.ofNat.inj h
theorem flats_encs (ks : List Nat) (f : Nat → Rat) : D.flats (ks.map fun k => enc (f k)) = true := by
 induction ks with
 | nil => rfl
 | cons a l ih => show (_ && _) = true; rw [flat_enc, Bool.true_and]; exact ih
theorem inl_kU (ks : List Nat) : (ks.map kU).all isInl = true := List.all_eq_true.mpr fun u hu => by
 obtain ⟨k, _, rfl⟩ := List.mem_map.mp hu
 rfl
theorem asFz_fd (ks : List Nat) (f : Nat → Rat) : asFz (fdD ks f) = some (ks.map kU, ks.map fun k => enc (f k)) := by
 exact if_pos (inl_kU ks)
theorem asFz_dk (ks : List Nat) (f : Nat → Rat) : asFz (dkD ks f) = some (ks.map kU, ks.map fun k => enc (f k)) := by
 show some (((ks.map fun k => (kI k, enc (f k))).map fun kv => (.inl kv.1 : KeyU)), (ks.map fun k => (kI k, enc (f k))).map (·.2)) = _
 rw [List.map_map, List.map_map]
 rfl
theorem fzFind_in (f : Nat → Rat) (k : Nat) : ∀ ks : List Nat, fzFind (ks.map kU) (ks.map fun k => enc (f k)) (kU k) = if k ∈ ks then some (enc (f k)) else none
 | [] => rfl
 | a :: l => by
  have ih := fzFind_in f k l
  unfold fzFind at ih ⊢
  rw [List.map_cons, List.map_cons, List.zip_cons_cons, List.find?_cons]
  by_cases h : a = k
  · subst h
    simp
  · have : kU a ≠ kU k := fun e => h (kU_inj e)
    simp only [decide_eq_false this, List.mem_cons]
    rw [ih]
    have : (k = a ∨ k ∈ l) ↔ k ∈ l := ⟨fun q => q.resolve_left fun e => h e.symm, .inr⟩
    simp only [this]
theorem ixF_fd {ks : List Nat} {f : Nat → Rat} {k : Nat} (h : k ∈ ks) : dIxF (fdD ks f) (.int k) = some (enc (f k)) := by
 unfold dIxF
 rw [asFz_fd]
 show ((fzFind (ks.map kU) (ks.map fun k => enc (f k)) (kU k)).bind fun v => if v.flat = true then some v else none) = _
 rw [fzFind_in, if_pos h]
 rfl
theorem getU_of {d : D} {ks : List Nat} {f : Nat → Rat} (e : asFz d = some (ks.map kU, ks.map fun k => enc (f k))) (h : ∀ k, k ∉ ks → f k = 0) (k : Nat) : fGetU d (.int k) (.tup [.int 0, .int 1]) = some (enc (f k)) := by
 unfold fGetU
 rw [e]
 show (if ((fzFind (ks.map kU) (ks.map fun k => enc (f k)) (kU k)).getD (.tup [.int 0, .int 1])).flat = true then some ((fzFind (ks.map kU) (ks.map fun k => enc (f k)) (kU k)).getD (.tup [.int 0, .int 1])) else none) = _
 rw [fzFind_in]
 by_cases m : k ∈ ks
 · rw [if_pos m]
   exact if_pos (flat_enc _)
 · rw [if_neg m, h k m]
   rfl
def gU3 (r : Nat) (y : D) (x : ER D) : ER D := match x with
 | .ok z σ2 => ofO (fGetU (σ2.getD r .non) y z) σ2
 | .exc c p s => .exc c p s
 | .stuck => .stuck
def gU2 (r : Nat) (gf : List D → ER D) (x : ER D) : ER D := match x with
 | .ok y σ1 => gU3 r y (gf σ1)
 | .exc c p s => .exc c p s
 | .stuck => .stuck
theorem a_getU {r : Nat} {σ : List D} {ge gf : List D → ER D} (h : (asFz (σ.getD r .non)).isSome = true) : eGetU r ge gf σ = gU2 r gf (ge σ) := by
 unfold eGetU gU2
 rw [if_pos h]
 cases ge σ with
 | ok y σ1 =>
  show ER.bind (gf σ1) _ = _
  dsimp only
  unfold gU3
  cases gf σ1 <;> rfl
 | _ => rfl
theorem gU2_o {r : Nat} {σ : List D} {gf : List D → ER D} {y : D} : gU2 r gf (.ok y σ) = gU3 r y (gf σ) := (rfl)
theorem gU3_o {r : Nat} {σ : List D} {y z : D} : gU3 r y (.ok z σ) = ofO (fGetU (σ.getD r .non) y z) σ := (rfl)
theorem dictC_fd (ks : List Nat) (f : Nat → Rat) : fDictC [fdD ks f] = some (dkD ks f) := by
 show ((asFz (fdD ks f)).bind fun p => if D.flats p.2 = true then some (D.dK ((p.1.filterMap fun u => match u with | .inl q => some q | .inr _ => none).zip p.2)) else none) = _
 rw [asFz_fd]
 show (if D.flats (ks.map fun k => enc (f k)) = true then some (D.dK (((ks.map kU).filterMap fun u => match u with | .inl q => some q | .inr _ => none).zip (ks.map fun k => enc (f k)))) else none) = _
 rw [if_pos (flats_encs ks f)]
 unfold dkD
 congr 2
 induction ks with
 | nil => rfl
 | cons a l ih =>
  rw [List.map_cons, List.filterMap_cons, List.map_cons]
  exact congrArg ((kI a, enc (f a)) :: ·) ih
def addK (ks : List Nat) (k : Nat) : List Nat := if k ∈ ks then ks else ks ++ [k]
def updF (f : Nat → Rat) (k : Nat) (x : Rat) : Nat → Rat := fun j => if j = k then x else f j
theorem mem_addK {ks : List Nat} {k j : Nat} : j ∈ addK ks k ↔ j ∈ ks ∨ j = k := by
 unfold addK
 split
 · rename_i h
   exact ⟨.inl, fun q => q.elim id fun e => e ▸ h⟩
 · rw [List.mem_append, List.mem_singleton]
theorem nodup_addK {ks : List Nat} {k : Nat} (h : ks.Nodup) : (addK ks k).Nodup := by
 unfold addK
 split
 · exact h
 · rename_i m
   rw [List.nodup_append]
   exact ⟨h, by simp, fun a ha b hb e => m (by rw [List.mem_singleton] at hb; rw [← hb, ← e]; exact ha)⟩
theorem put_dk {ks : List Nat} {f : Nat → Rat} {k : Nat} {x : Rat} (hl : ks.length < 10000) : dPutD (dkD ks f) (.int k) (enc x) = some (dkD (addK ks k) (updF f k x)) := by
 have l2 : (ks.map fun k => (kI k, enc (f k))).length < sizeLine := by
  rw [List.length_map]
  exact Nat.lt_of_lt_of_le hl (by decide)
 unfold dPutD dkD
 show (if (enc x).flat = true ∧ (ks.map fun k => (kI k, enc (f k))).length < sizeLine then _ else _) = _
 rw [if_pos ⟨flat_enc _, l2⟩]
 show some (D.dK (dPut _ (kI k) (enc x))) = _
 have a : ((ks.map fun k => (kI k, enc (f k))).any fun kv => decide (kv.1 = kI k)) = decide (k ∈ ks) := by
  rw [List.any_map, Bool.eq_iff_iff, List.any_eq_true, decide_eq_true_iff]
  constructor
  · rintro ⟨j, hj, e⟩
    have := kI_inj (of_decide_eq_true e)
    rw [← this]; exact hj
  · exact fun h => ⟨k, h, decide_eq_true rfl⟩
 unfold dPut addK
 rw [a]
 by_cases h : k ∈ ks
 · rw [decide_eq_true h, if_pos rfl, if_pos h, List.map_map]
   refine congrArg (fun l => some (D.dK l)) (List.map_congr_left fun j hj => ?_)
   show (if kI j = kI k then (kI j, enc x) else (kI j, enc (f j))) = _
   unfold updF
   by_cases e : j = k
   · rw [if_pos (by rw [e]), if_pos e]
   · rw [if_neg (fun q => e (kI_inj q)), if_neg e]
 · rw [decide_eq_false h, if_neg (by simp), if_neg h, List.map_append]
   refine congrArg (fun l => some (D.dK l)) (congr (congrArg _ (List.map_congr_left fun j hj => ?_)) ?_)
   · unfold updF
     rw [if_neg (fun e : j = k => h (e ▸ hj))]
   · show [(kI k, enc x)] = [(kI k, enc (updF f k x k))]
     unfold updF
     rw [if_pos rfl]
theorem keysF_fd {r : Nat} {σ : List D} {ks : List Nat} {f : Nat → Rat} (h : σ.getD r .non = fdD ks f) : gKeysF r σ = .ok (ks.map fun (k : Nat) => D.int k) σ := by
 unfold gKeysF
 rw [h]
 show (if (ks.map kU).all isInl = true then _ else _) = _
 rw [if_pos (inl_kU ks), List.map_map]
 rfl
theorem keysU_dk {r : Nat} {σ : List D} {ks : List Nat} {f : Nat → Rat} (h : σ.getD r .non = dkD ks f) : gKeysU r σ = .ok (ks.map fun (k : Nat) => D.int k) (σ.set r (fdD ks f)) := by
 unfold gKeysU
 rw [h]
 unfold dkD
 show (if D.flats ((ks.map fun k => (kI k, enc (f k))).map (·.2)) = true then _ else _) = _
 rw [List.map_map, List.map_map, List.map_map]
 exact if_pos (flats_encs ks f)
theorem dictP_fd {ks : List Nat} {f : Nat → Rat} (nd : ks.Nodup) : fDictP [.lst (ks.map fun (k : Nat) => D.tup [.int k, enc (f k)])] = some (fdD ks f) := by
 have e : pairsD (ks.map fun (k : Nat) => D.tup [.int k, enc (f k)]) = some (ks.map fun k => (kI k, enc (f k))) := by
  clear nd
  induction ks with
  | nil => rfl
  | cons a l ih =>
   have : pairD (D.tup [.int a, enc (f a)]) = some (kI a, enc (f a)) := by
    rfl
   show ((pairD (D.tup [.int a, enc (f a)])).bind fun p => (pairsD (l.map fun (k : Nat) => D.tup [.int k, enc (f k)])).map fun ps => p :: ps) = _
   rw [this, ih]
   rfl
 unfold fDictP
 dsimp only
 rw [e]
 show (if ((ks.map fun k => (kI k, enc (f k))).map (·.1)).Nodup then _ else _) = _
 rw [if_pos, List.map_map, List.map_map]
 · rfl
 · rw [List.map_map, List.Nodup, List.pairwise_map]
   exact nd.imp fun h e => h (kI_inj e)
theorem empE_fd (ks : List Nat) (f : Nat → Rat) : dEmpE (fdD ks f) (.dK []) = some (.bl ks.isEmpty) := by
 show (asFz (fdD ks f)).map _ = _
 rw [asFz_fd]
 show some (D.bl (ks.map kU).isEmpty) = _
 cases ks <;> rfl
theorem intsU_kU (ks : List Nat) : intsU (ks.map kU) = some (ks.map fun (k : Nat) => (k : Int)) := by
 induction ks with
 | nil => rfl
 | cons a l ih =>
  show (intsU (l.map kU)).map _ = _
  rw [ih]
  rfl
theorem minK_fd {ks : List Nat} (f : Nat → Rat) (h : ks ≠ []) : ∃ j, j ∈ ks ∧ (∀ k ∈ ks, j ≤ k) ∧ fMinK (fdD ks f) = some (.int j) := by
 have ne : (ks.map fun (k : Nat) => (k : Int)) ≠ [] := fun e => h (List.map_eq_nil_iff.mp e)
 obtain ⟨h1, h2⟩ := minI_spec ne
 obtain ⟨j, hj, ej⟩ := List.mem_map.mp h1
 refine ⟨j, hj, fun k hk => ?_, ?_⟩
 · have := h2 k (List.mem_map_of_mem hk)
   omega
 · unfold fMinK
   rw [asFz_fd]
   show (intsU (ks.map kU)).bind _ = _
   rw [intsU_kU]
   show (if (ks.map fun (k : Nat) => (k : Int)).isEmpty = true then _ else _) = _
   rw [if_neg, ej]
   cases ks with
   | nil => exact absurd rfl h
   | cons a l => simp
structure Dc (ks : List Nat) (f : Nat → Rat) : Prop where
 nd : ks.Nodup
 mem : ∀ k, k ∈ ks ↔ f k ≠ 0
theorem Dc.out {ks : List Nat} {f : Nat → Rat} (h : Dc ks f) {k : Nat} (m : k ∉ ks) : f k = 0 := by
 by_cases e : f k = 0
 · exact e
 · exact absurd ((h.mem k).mpr e) m
theorem Dc.len {ks : List Nat} {f : Nat → Rat} (h : Dc ks f) {P : Nat} (z : ∀ k, P ≤ k → f k = 0) : ks.length ≤ P := by
 have := nodup_len (k := List.range P) h.nd fun i hi => List.mem_range.mpr (by
  by_cases e : i < P
  · exact e
  · exact absurd (z i (by omega)) ((h.mem i).mp hi))
 rwa [List.length_range] at this
theorem Dc.nil : Dc [] fun _ => 0 := ⟨by simp, by simp⟩
def lessK (ks ls : List Nat) (h : Nat → Rat) : List Nat := (ls.foldl addK ks).filter fun k => decide (h k ≠ 0)
theorem mem_foldK : ∀ (ls ks : List Nat) (j : Nat), j ∈ ls.foldl addK ks ↔ j ∈ ks ∨ j ∈ ls
 | [], ks, j => by simp
 | a :: l, ks, j => by rw [List.foldl_cons, mem_foldK l, mem_addK, List.mem_cons]; exact ⟨fun q => q.elim (fun z => z.elim .inl (fun e => .inr (.inl e))) (fun z => .inr (.inr z)), fun q => q.elim (fun z => .inl (.inl z)) fun z => z.elim (fun e => .inl (.inr e)) .inr⟩
theorem nodup_foldK : ∀ (ls : List Nat) {ks : List Nat}, ks.Nodup → (ls.foldl addK ks).Nodup
 | [], ks, h => h
 | a :: l, ks, h => nodup_foldK l (nodup_addK h)
theorem Dc.less {ks ls : List Nat} {f g : Nat → Rat} (hf : Dc ks f) (hg : Dc ls g) (q : Rat) : Dc (lessK ks ls fun k => f k - q * g k) fun k => f k - q * g k := by
 refine ⟨(nodup_foldK ls hf.nd).filter _, fun k => ?_⟩
 unfold lessK
 rw [List.mem_filter, mem_foldK, decide_eq_true_iff]
 refine ⟨fun h => h.2, fun h => ⟨?_, h⟩⟩
 by_cases m : k ∈ ks
 · exact .inl m
 · by_cases m2 : k ∈ ls
   · exact .inr m2
   · refine absurd ?_ h
     show f k - q * g k = 0
     rw [hf.out m, hg.out m2]
     grind
end Ow
namespace Ow
open PySem PySem.Spec PySem.SeqAt PyProof.Rows L2
structure SRow where
 lead : Nat
 own : Nat → Rat
 parts : Nat → Rat
 oK : List Nat
 pK : List Nat
def ldS (s : (Nat → Rat) × (Nat → Rat)) (r : SRow) : (Nat → Rat) × (Nat → Rat) := (fun k => s.1 k - s.1 r.lead * r.own k, fun k => s.2 k - (0 - s.1 r.lead) * r.parts k)
def ld (rs : List SRow) (v : Nat → Rat) : (Nat → Rat) × (Nat → Rat) := rs.foldl ldS (v, fun _ => 0)
structure Sml (f : Nat → Rat) : Prop where
 sz : ∀ k, Ow.sz 2900 (f k)
 sup : ∀ k, 20 ≤ k → f k = 0
theorem Sml.len {f : Nat → Rat} (h : Sml f) {ks : List Nat} (d : Dc ks f) : ks.length ≤ 100 := Nat.le_trans (d.len h.sup) (by decide)
def dlt (n : Nat) : Nat → Rat := fun k => if k = n then 1 else 0
theorem Dc.one (n : Nat) : Dc [n] (dlt n) := ⟨by simp, fun k => by
 unfold dlt
 rw [List.mem_singleton]
 by_cases h : k = n
 · rw [if_pos h]; exact ⟨fun _ => by decide, fun _ => h⟩
 · rw [if_neg h]; exact ⟨fun e => absurd e h, fun e => absurd rfl e⟩⟩
def nwR (l : Nat) (n : Nat) (s : (Nat → Rat) × (Nat → Rat)) (oK pK : List Nat) : SRow := ⟨l, fun k => 0 - (0 - 1 / s.1 l) * s.1 k, fun k => 0 - (0 - 1 / s.1 l) * (dlt n k - 1 * s.2 k), oK, pK⟩
def ldQ : List SRow → (Nat → Rat) → (Nat → Rat) × (Nat → Rat)
 | [], v => (v, fun _ => 0)
 | r :: q, v => ldS (ldQ q v) r
inductive Sp (V : Nat → Nat → Rat) : List SRow → List Nat → Prop
 | nil : Sp V [] []
 | cons {q : List SRow} {b : List Nat} {l n : Nat} {oK pK : List Nat} (h : Sp V q b) (hl : (ldQ q (V n)).1 l ≠ 0) (hn : n ∉ b) : Sp V (nwR l n (ldQ q (V n)) oK pK :: q) (n :: b)
theorem Sp.len {V : Nat → Nat → Rat} : ∀ {q : List SRow} {b : List Nat}, Sp V q b → q.length = b.length
 | _, _, .nil => rfl
 | _, _, .cons h _ _ => congrArg (· + 1) h.len
theorem Sp.drop {V : Nat → Nat → Rat} : ∀ (j : Nat) {q : List SRow} {b : List Nat}, Sp V q b → Sp V (q.drop j) (b.drop j)
 | 0, _, _, h => h
 | j + 1, _, _, .nil => by simpa using Sp.nil
 | j + 1, _, _, .cons h _ _ => h.drop j
theorem Sp.mix0 {V : Nat → Nat → Rat} (v : Nat → Rat) {j : Nat} : ∀ {q : List SRow} {b : List Nat}, Sp V q b → j ∉ b → (ldQ q v).2 j = 0
 | _, _, .nil, _ => rfl
 | _, _, .cons (q := q) (l := l) (n := n) h hl hn, hj => by
  rw [List.mem_cons] at hj
  show (ldQ q v).2 j - (0 - (ldQ q v).1 l) * (0 - (0 - 1 / (ldQ q (V n)).1 l) * (dlt n j - 1 * (ldQ q (V n)).2 j)) = 0
  rw [h.mix0 v (fun m => hj (.inr m)), h.mix0 (V n) (fun m => hj (.inr m))]
  unfold dlt
  rw [if_neg (fun e => hj (.inl e))]
  grind
theorem Sp.lead {V : Nat → Nat → Rat} (v : Nat → Rat) : ∀ {q : List SRow} {b : List Nat}, Sp V q b → ∀ r ∈ q, (ldQ q v).1 r.lead = 0
 | _, _, .nil, r, hr => by simp at hr
 | _, _, .cons (q := q) (l := l) (n := n) (oK := oK) (pK := pK) h hl hn, r, hr => by
  have key : ∀ k, (ldQ (nwR l n (ldQ q (V n)) oK pK :: q) v).1 k = (ldQ q v).1 k - (ldQ q v).1 l * (0 - (0 - 1 / (ldQ q (V n)).1 l) * (ldQ q (V n)).1 k) := fun k => rfl
  rw [key]
  rcases List.mem_cons.mp hr with rfl | hr
  · show (ldQ q v).1 l - (ldQ q v).1 l * (0 - (0 - 1 / (ldQ q (V n)).1 l) * (ldQ q (V n)).1 l) = 0
    have : 1 / (ldQ q (V n)).1 l * (ldQ q (V n)).1 l = 1 := Rat.div_mul_cancel hl
    grind
  · rw [h.lead v r hr, h.lead (V n) r hr]
    grind
theorem Sp.eq {V : Nat → Nat → Rat} (v : Nat → Rat) (k : Nat) : ∀ {q : List SRow} {b : List Nat}, Sp V q b → v k = (ldQ q v).1 k + sumF (fun i => (ldQ q v).2 (b.getD i 0) * V (b.getD i 0) k) b.length
 | _, _, .nil => by
  show v k = v k + 0
  grind
 | _, _, .cons (q := q) (b := b) (l := l) (n := n) (oK := oK) (pK := pK) h hl hn => by
  have e1 := h.eq v k
  have e2 := h.eq (V n) k
  have m1 := h.mix0 v hn
  have m2 := h.mix0 (V n) hn
  obtain ⟨s, hs⟩ : ∃ s, s = ldQ q v := ⟨_, rfl⟩
  obtain ⟨t, ht⟩ : ∃ t, t = ldQ q (V n) := ⟨_, rfl⟩
  have d1 : ∀ k, (ldQ (nwR l n (ldQ q (V n)) oK pK :: q) v).1 k = s.1 k - s.1 l * (0 - (0 - 1 / t.1 l) * t.1 k) := fun k => by rw [hs, ht]; rfl
  have d2 : ∀ k, (ldQ (nwR l n (ldQ q (V n)) oK pK :: q) v).2 k = s.2 k - (0 - s.1 l) * (0 - (0 - 1 / t.1 l) * (dlt n k - 1 * t.2 k)) := fun k => by rw [hs, ht]; rfl
  rw [← hs] at e1 m1
  rw [← ht] at e2 m2 hl
  obtain ⟨c, hc⟩ : ∃ c, c = s.1 l * (1 / t.1 l) := ⟨_, rfl⟩
  have g1 : (ldQ (nwR l n (ldQ q (V n)) oK pK :: q) v).1 k = s.1 k - c * t.1 k := by rw [d1, hc]; grind
  have g2 : ∀ j, (ldQ (nwR l n (ldQ q (V n)) oK pK :: q) v).2 j = s.2 j + c * (dlt n j - t.2 j) := fun j => by rw [d2, hc]; grind
  have su : sumF (fun i => (ldQ (nwR l n (ldQ q (V n)) oK pK :: q) v).2 (b.getD i 0) * V (b.getD i 0) k) b.length = sumF (fun i => s.2 (b.getD i 0) * V (b.getD i 0) k) b.length - c * sumF (fun i => t.2 (b.getD i 0) * V (b.getD i 0) k) b.length := by
   rw [← sumF_mul, ← sumF_sub]
   refine sumF_congr fun i hi => ?_
   have hb : b.getD i 0 ∈ b := by rw [List.getD_eq_getElem?_getD, List.getElem?_eq_getElem hi]; exact List.getElem_mem hi
   rw [g2]
   unfold dlt
   rw [if_neg (fun e : b.getD i 0 = n => hn (e ▸ hb))]
   grind
  rw [List.length_cons, sumF_first]
  show v k = _ + ((ldQ (nwR l n (ldQ q (V n)) oK pK :: q) v).2 n * V n k + sumF (fun i => (ldQ (nwR l n (ldQ q (V n)) oK pK :: q) v).2 (b.getD i 0) * V (b.getD i 0) k) b.length)
  rw [su, g1, g2 n, m1, m2]
  unfold dlt
  rw [if_pos rfl]
  grind
def ldsL (q : List SRow) : List Nat := q.map SRow.lead
def spM (V : Nat → Nat → Rat) (L b : List Nat) : Nat → Nat → Rat := fun a c => V (b.getD c 0) (L.getD a 0)
def bdM (V : Nat → Nat → Rat) (v : Nat → Rat) (k : Nat) (L b : List Nat) : Nat → Nat → Rat := fun a c => if c = 0 then v ((k :: L).getD a 0) else V (b.getD (c - 1) 0) ((k :: L).getD a 0)
theorem bdM_self (V : Nat → Nat → Rat) (n k : Nat) (L b : List Nat) : bdM V (V n) k L b = spM V (k :: L) (n :: b) := by
 funext a c
 unfold bdM spM
 cases c with
 | zero => rfl
 | succ c => rw [if_neg (by omega)]; rfl
theorem lead_at {V : Nat → Nat → Rat} {q : List SRow} {b : List Nat} (h : Sp V q b) (v : Nat → Rat) {a : Nat} (ha : a < b.length) : (ldQ q v).1 ((ldsL q).getD a 0) = 0 := by
 have hq : a < q.length := by rw [h.len]; exact ha
 have e : (ldsL q).getD a 0 = (q[a]).lead := by
  unfold ldsL
  rw [List.getD_eq_getElem?_getD, List.getElem?_map, List.getElem?_eq_getElem hq]
  rfl
 rw [e]
 exact h.lead v _ (List.getElem_mem hq)
theorem Sp.border {V : Nat → Nat → Rat} {q : List SRow} {b : List Nat} (h : Sp V q b) (v : Nat → Rat) (k : Nat) : dt (b.length + 1) (bdM V v k (ldsL q) b) = (ldQ q v).1 k * dt b.length (spM V (ldsL q) b) := by
 obtain ⟨S, hS⟩ : ∃ S : Nat → Nat → Rat, S = fun a c => if c = 0 then (if a = 0 then 1 else 0) else V (b.getD (c - 1) 0) ((k :: ldsL q).getD a 0) := ⟨_, rfl⟩
 obtain ⟨x, hx⟩ : ∃ x : Nat → Rat, x = fun c => if c = 0 then (ldQ q v).1 k else (ldQ q v).2 (b.getD (c - 1) 0) := ⟨_, rfl⟩
 have cm := cramer_mix (n := b.length + 1) (i := 0) (S := S) (x := x) (b := fun a => v ((k :: ldsL q).getD a 0)) (by omega) (fun a ha => by
  rw [sumF_first]
  have e := h.eq v ((k :: ldsL q).getD a 0)
  have s0 : S a 0 * x 0 = (if a = 0 then (ldQ q v).1 k else 0) := by
   rw [hS, hx]
   show (if a = 0 then (1 : Rat) else 0) * (ldQ q v).1 k = _
   split <;> grind
  have l0 : (ldQ q v).1 ((k :: ldsL q).getD a 0) = (if a = 0 then (ldQ q v).1 k else 0) := by
   cases a with
   | zero => rfl
   | succ a =>
    rw [if_neg (by omega)]
    exact lead_at h v (a := a) (by omega)
  rw [s0, ← l0]
  refine e.trans (congrArg _ (sumF_congr fun i hi => ?_))
  rw [hS, hx]
  show _ = (if i + 1 = 0 then _ else V (b.getD (i + 1 - 1) 0) _) * (if i + 1 = 0 then _ else (ldQ q v).2 (b.getD (i + 1 - 1) 0))
  rw [if_neg (by omega), if_neg (by omega), Nat.add_sub_cancel]
  exact Rat.mul_comm _ _)
 have e1 : (fun a c => if c = 0 then v ((k :: ldsL q).getD a 0) else S a c) = bdM V v k (ldsL q) b := by
  funext a c
  unfold bdM
  rw [hS]
  dsimp only
  by_cases h : c = 0
  · rw [if_pos h, if_pos h]
  · rw [if_neg h, if_neg h, if_neg h]
 have e2 : dt (b.length + 1) S = dt b.length (spM V (ldsL q) b) := by
  rw [dt_peel (A := S) fun a ha => by rw [hS]; rfl]
  have : S 0 0 = 1 := by rw [hS]; rfl
  rw [this, Rat.one_mul]
  refine congrArg _ ?_
  funext a c
  rw [hS]
  show (if c + 1 = 0 then _ else V (b.getD (c + 1 - 1) 0) ((k :: ldsL q).getD (a + 1) 0)) = spM V (ldsL q) b a c
  rw [if_neg (by omega)]
  rfl
 have e0 : x 0 = (ldQ q v).1 k := by rw [hx]; rfl
 rw [e1, e2, e0] at cm
 exact cm
theorem Sp.mixd {V : Nat → Nat → Rat} {q : List SRow} {b : List Nat} (h : Sp V q b) (v : Nat → Rat) {i : Nat} (hi : i < b.length) : dt b.length (fun a c => if c = i then v ((ldsL q).getD a 0) else spM V (ldsL q) b a c) = (ldQ q v).2 (b.getD i 0) * dt b.length (spM V (ldsL q) b) :=
 cramer_mix (x := fun c => (ldQ q v).2 (b.getD c 0)) hi fun a ha => by
  have e := h.eq v ((ldsL q).getD a 0)
  rw [lead_at h v ha, Rat.zero_add] at e
  exact e.trans (sumF_congr fun c _ => Rat.mul_comm _ _)
theorem Sp.det {V : Nat → Nat → Rat} : ∀ {q : List SRow} {b : List Nat}, Sp V q b → dt b.length (spM V (ldsL q) b) ≠ 0
 | _, _, .nil => by show (1 : Rat) ≠ 0; decide
 | _, _, .cons (q := q) (b := b) (l := l) (n := n) (oK := oK) (pK := pK) h hl hn => by
  have e := h.border (V n) l
  rw [bdM_self] at e
  show dt (b.length + 1) (spM V (l :: ldsL q) (n :: b)) ≠ 0
  rw [e]
  exact mul_ne0 hl h.det
structure VB (V : Nat → Nat → Rat) (D N T : Nat) : Prop where
 D0 : 0 < D
 N0 : 0 < N
 fb : ∀ j k, Ow.fb D N (V j k)
 sup : ∀ j k, 20 ≤ k → V j k = 0
 big : fk T * N ^ T * D ^ T < 2 ^ 2900
theorem fk_mono : ∀ {a b : Nat}, a ≤ b → fk a ≤ fk b
 | a, 0, h => by
  have : a = 0 := by omega
  rw [this]
  exact Nat.le_refl _
 | a, b + 1, h => by
  rcases Nat.lt_or_ge b a with q | q
  · have : a = b + 1 := by omega
    rw [this]
    exact Nat.le_refl _
  · exact Nat.le_trans (fk_mono q) (Nat.le_mul_of_pos_left _ (by omega))
theorem VB.le {V : Nat → Nat → Rat} {D N T : Nat} (h : VB V D N T) {a b : Nat} (ha : a ≤ T) (hb : b ≤ T) : fk a * N ^ a * D ^ b < 2 ^ 2900 :=
 Nat.lt_of_le_of_lt (Nat.mul_le_mul (Nat.mul_le_mul (fk_mono ha) (Nat.pow_le_pow_right h.N0 ha)) (Nat.pow_le_pow_right h.D0 hb)) h.big
theorem VB.spM {V : Nat → Nat → Rat} {D N T : Nat} (h : VB V D N T) (L b : List Nat) (i j : Nat) : Ow.fb D N (Ow.spM V L b i j) := h.fb _ _
theorem VB.bdM {V : Nat → Nat → Rat} {D N T : Nat} (h : VB V D N T) {v : Nat → Rat} (hv : ∀ k, Ow.fb D N (v k)) (k : Nat) (L b : List Nat) (i j : Nat) : Ow.fb D N (Ow.bdM V v k L b i j) := by
 unfold Ow.bdM
 split
 · exact hv _
 · exact h.fb _ _
theorem get_mem {b : List Nat} {j : Nat} (h : j ∈ b) : ∃ i, i < b.length ∧ b.getD i 0 = j := by
 obtain ⟨i, hi, e⟩ := List.mem_iff_getElem.mp h
 exact ⟨i, hi, by rw [List.getD_eq_getElem?_getD, List.getElem?_eq_getElem hi]; exact e⟩
end Ow
namespace Ow
open PySem PySem.Spec PySem.SeqAt PyProof.Rows L2 PySem.W
end Ow
namespace Ow
open PySem PySem.Spec PySem.SeqAt PyProof.Rows L2
def cz (n d : Nat) (u : Rat) (x : Nat → Rat) : Rat := if d = 0 then u else x (n - d)
def e0 (k : Nat) : Rat := if k = 0 then 1 else 0
section
variable {m : List MRow} {T : Nat → Nat → Rat}
def InW (m : List MRow) (T : Nat → Nat → Rat) (x : Nat → Rat) : Prop := ∃ (A : Nat) (y : Nat → Rat), (∀ i, i < m.length → x i = sumF (fun a => y a * wt (T i) a) A) ∧ sumF (fun a => y a * e0 a) A = 1
theorem InW.start (hT : Turn m T) : InW m T fun i => (m.getD i default).st := ⟨1, fun _ => 1, fun i hi => by
 show (m.getD i default).st = 0 + 1 * wt (T i) 0
 rw [← wt_0 hT hi]
 grind, by
 show (0 : Rat) + 1 * e0 0 = 1
 unfold e0
 rw [if_pos rfl]
 grind⟩
theorem InW.congr {x z : Nat → Rat} (h : InW m T x) (e : ∀ i, i < m.length → z i = x i) : InW m T z := by
 obtain ⟨A, y, h1, h2⟩ := h
 exact ⟨A, y, fun i hi => (e i hi).trans (h1 i hi), h2⟩
theorem InW.click (hm : Mach m) (he : evenB m = true) (hT : Turn m T) {x mv : Nat → Rat} (h : InW m T x) {q : Rat} (hv : ∀ i, i < m.length → mv i = mvF (m.getD i default) x mv q) : InW m T fun i => x i + mv i := by
 obtain ⟨A, y, h1, h2⟩ := h
 obtain ⟨rk, hrk⟩ := hm.rk
 have key : ∀ (g i : Nat), rk i = g → i < m.length → mv i = q * sumF (fun a => y a * wt (T i) (a + 1)) A := by
  intro g
  induction g using Nat.strongRecOn with
  | _ g ih =>
   intro i hg hi
   have dr := hrk i _ (hm.at hi)
   rw [hv i hi]
   cases hr : m.getD i default with
   | source st =>
    rw [sumF_congr (g := fun a => y a * e0 a) fun a _ => by rw [wt_src hT hi (by rw [hr]; rfl)]; rfl, h2]
    show q = _
    grind
   | gear st r d =>
    rw [hr] at dr
    obtain ⟨d1, d2⟩ := dr d (by simp [MRow.drv])
    have e := ih (rk d) (by omega) d rfl d1
    rw [sumF_congr (g := fun a => r * (y a * wt (T d) (a + 1))) fun a _ => by rw [wt_gear hT hi hr]; grind, sumF_mul]
    show r * mv d = _
    rw [e]
    grind
   | adder st a b =>
    rw [hr] at dr
    obtain ⟨a1, a2⟩ := dr a (by simp [MRow.drv])
    obtain ⟨b1, b2⟩ := dr b (by simp [MRow.drv])
    have ea := ih (rk a) (by omega) a rfl a1
    have eb := ih (rk b) (by omega) b rfl b1
    rw [sumF_congr (g := fun j => y j * wt (T a) (j + 1) + y j * wt (T b) (j + 1)) fun j _ => by rw [wt_adder hT hi hr]; grind, sumF_add]
    show mv a + mv b = _
    rw [ea, eb]
    grind
   | disc st w d =>
    have wl := hm.whl i st w d (by rw [hm.at hi, hr])
    have sd := even_src he hi hr
    rw [hr] at dr
    obtain ⟨d1, d2⟩ := dr d (by simp [MRow.drv])
    have md : mv d = q := by
     rw [hv d d1]
     cases hd : m.getD d default with
     | source _ => rfl
     | _ => rw [hd] at sd; cases sd
    rw [sumF_congr (g := fun a => y a * wt (T w) a) fun a _ => by rw [wt_disc hm he hT hi hr], ← h1 w wl]
    show x w * mv d = _
    rw [md]
    grind
 refine ⟨A + 1, fun a => (if a < A then y a else 0) + q * (if a = 0 then 0 else y (a - 1)), fun i hi => ?_, ?_⟩
 · show x i + mv i = _
   rw [h1 i hi, key _ i rfl hi, sumF_congr (f := fun a => ((if a < A then y a else 0) + q * (if a = 0 then 0 else y (a - 1))) * wt (T i) a) (g := fun a => (if a < A then y a else 0) * wt (T i) a + q * ((if a = 0 then 0 else y (a - 1)) * wt (T i) a)) fun a _ => by grind, sumF_add, sumF_mul]
   have s1 : sumF (fun a => (if a < A then y a else 0) * wt (T i) a) (A + 1) = sumF (fun a => y a * wt (T i) a) A := by
    show sumF _ A + (if A < A then y A else 0) * wt (T i) A = _
    rw [if_neg (by omega), sumF_congr (g := fun a => y a * wt (T i) a) fun a ha => by rw [if_pos ha]]
    grind
   have s2 : sumF (fun a => (if a = 0 then 0 else y (a - 1)) * wt (T i) a) (A + 1) = sumF (fun a => y a * wt (T i) (a + 1)) A := by
    rw [sumF_first, if_pos rfl, sumF_congr (g := fun a => y a * wt (T i) (a + 1)) fun a _ => by rw [if_neg (by omega), Nat.add_sub_cancel]]
    grind
   rw [s1, s2]
 · rw [sumF_congr (f := fun a => ((if a < A then y a else 0) + q * (if a = 0 then 0 else y (a - 1))) * e0 a) (g := fun a => (if a < A then y a else 0) * e0 a + q * ((if a = 0 then 0 else y (a - 1)) * e0 a)) fun a _ => by grind, sumF_add, sumF_mul]
   have s1 : sumF (fun a => (if a < A then y a else 0) * e0 a) (A + 1) = 1 := by
    rw [← h2]
    show sumF _ A + (if A < A then y A else 0) * e0 A = _
    rw [if_neg (by omega), sumF_congr (g := fun a => y a * e0 a) fun a ha => by rw [if_pos ha]]
    grind
   have s2 : sumF (fun a => (if a = 0 then 0 else y (a - 1)) * e0 a) (A + 1) = 0 := by
    rw [sumF_congr (g := fun _ => 0) fun a _ => by
     unfold e0
     split <;> simp, sumF_zero]
   rw [s1, s2]
   grind
end
end Ow
namespace Ow
open PySem PySem.Spec PySem.SeqAt PyProof.Rows L2
theorem Sp.common {V : Nat → Nat → Rat} {N T : Nat} (h : VB V 1 N T) {q : List SRow} {b : List Nat} (s : Sp V q b) (hb : b.length ≤ T) {v : Nat → Rat} (hv : ∀ k, Ow.fb 1 N (v k)) : ∃ e, 0 < e ∧ e ≤ fk T * N ^ T ∧ ∀ j, Ow.fb e (fk T * N ^ T) ((ldQ q v).2 j) := by
 have up : fk b.length * N ^ b.length ≤ fk T * N ^ T := Nat.mul_le_mul (fk_mono hb) (Nat.pow_le_pow_right h.N0 hb)
 have fd := fb_dt h.D0 (n := b.length) (A := Ow.spM V (ldsL q) b) fun i j _ _ => h.spM _ _ _ _
 rw [Nat.one_pow] at fd
 obtain ⟨_, z, ez, lz⟩ := fd
 have one : (((1 : Nat) : Int) : Rat) = 1 := rfl
 rw [one, Rat.mul_one] at ez
 have z0 : z ≠ 0 := by
  rintro rfl
  exact s.det ez
 refine ⟨z.natAbs, by omega, Nat.le_trans lz up, fun j => ?_⟩
 by_cases m : j ∈ b
 · obtain ⟨i, hi, e⟩ := get_mem m
   have md := s.mixd v hi
   rw [e, ez] at md
   have fn := fb_dt h.D0 (n := b.length) (A := fun a c => if c = i then v ((ldsL q).getD a 0) else Ow.spM V (ldsL q) b a c) fun x y _ _ => by
    split
    · exact hv _
    · exact h.spM _ _ _ _
   rw [Nat.one_pow] at fn
   obtain ⟨_, y, ey, ly⟩ := fn
   rw [one, Rat.mul_one, md] at ey
   by_cases pz : 0 ≤ z
   · refine ⟨by omega, y, ?_, Nat.le_trans ly up⟩
     rw [← ey, show ((z.natAbs : Nat) : Int) = z by omega]
   · refine ⟨by omega, -y, ?_, by rw [Int.natAbs_neg]; exact Nat.le_trans ly up⟩
     rw [Rat.intCast_neg, ← ey, show ((z.natAbs : Nat) : Int) = -z by omega, Rat.intCast_neg]
     grind
 · rw [s.mix0 v m]
   exact (fb.zero (by omega)).mono (Nat.zero_le _)
theorem rat_den (x : Rat) : x * ((x.den : Int) : Rat) = (x.num : Rat) := by
 have h : x = (x.num : Rat) / ((x.den : Int) : Rat) := by rw [← Rat.divInt_eq_div, Rat.num_divInt_den]
 have d0 : ((x.den : Int) : Rat) ≠ 0 := by
  have := x.den_nz
  intro q
  have : (x.den : Int) = 0 := by exact_mod_cast q
  omega
 have e : (x.num : Rat) / ((x.den : Int) : Rat) * ((x.den : Int) : Rat) = x.num := Rat.div_mul_cancel d0
 rwa [← h] at e
def CB (n e : Nat) (x : Nat → Rat) : Prop := ∀ i, i < n → ∃ z : Int, x i * ((e : Int) : Rat) = (z : Rat)
theorem CB.click {m : List MRow} {e : Nat} {x mv : Nat → Rat} (hm : Mach m) (he : evenB m = true) (nums : ∀ r ∈ m, ∀ q ∈ r.nums, ∃ z : Int, q = (z : Rat)) (h : CB m.length e x) {q : Rat} {q0 : Nat} (hq : ∃ z : Int, q * ((q0 : Int) : Rat) = (z : Rat)) (hv : ∀ i, i < m.length → mv i = mvF (m.getD i default) x mv q) : CB m.length (e * q0) fun i => x i + mv i := by
 obtain ⟨zq, hq⟩ := hq
 obtain ⟨rk, hrk⟩ := hm.rk
 have cast : (((e * q0 : Nat) : Int) : Rat) = ((e : Int) : Rat) * ((q0 : Int) : Rat) := by rw [Int.natCast_mul, Rat.intCast_mul]
 have key : ∀ (g i : Nat), rk i = g → i < m.length → ∃ z : Int, mv i * (((e : Int) : Rat) * ((q0 : Int) : Rat)) = (z : Rat) := by
  intro g
  induction g using Nat.strongRecOn with
  | _ g ih =>
   intro i hg hi
   have dr := hrk i _ (hm.at hi)
   rw [hv i hi]
   cases hr : m.getD i default with
   | source st =>
    refine ⟨(e : Int) * zq, ?_⟩
    show q * _ = _
    rw [Rat.intCast_mul, ← hq]
    grind
   | gear st r d =>
    rw [hr] at dr
    obtain ⟨d1, d2⟩ := dr d (by simp [MRow.drv])
    obtain ⟨z, e1⟩ := ih (rk d) (by omega) d rfl d1
    obtain ⟨w, e2⟩ := nums _ (List.mem_of_getElem? (hm.at hi)) r (by rw [hr]; simp [MRow.nums])
    refine ⟨w * z, ?_⟩
    show r * mv d * _ = _
    rw [Rat.intCast_mul, ← e1, e2]
    grind
   | adder st a b =>
    rw [hr] at dr
    obtain ⟨a1, a2⟩ := dr a (by simp [MRow.drv])
    obtain ⟨b1, b2⟩ := dr b (by simp [MRow.drv])
    obtain ⟨y, ea⟩ := ih (rk a) (by omega) a rfl a1
    obtain ⟨z, eb⟩ := ih (rk b) (by omega) b rfl b1
    refine ⟨y + z, ?_⟩
    show (mv a + mv b) * _ = _
    rw [Rat.intCast_add, ← ea, ← eb]
    grind
   | disc st w d =>
    have wl := hm.whl i st w d (by rw [hm.at hi, hr])
    have sd := even_src he hi hr
    rw [hr] at dr
    obtain ⟨d1, d2⟩ := dr d (by simp [MRow.drv])
    have md : mv d = q := by
     rw [hv d d1]
     cases hd : m.getD d default with
     | source _ => rfl
     | _ => rw [hd] at sd; cases sd
    obtain ⟨y, ex⟩ := h w wl
    refine ⟨y * zq, ?_⟩
    show x w * mv d * _ = _
    rw [md, Rat.intCast_mul, ← ex, ← hq]
    grind
 intro i hi
 obtain ⟨y, ex⟩ := h i hi
 obtain ⟨z, ez⟩ := key _ i rfl hi
 have q0' : ∃ w : Int, ((q0 : Int) : Rat) = (w : Rat) := ⟨q0, rfl⟩
 refine ⟨y * (q0 : Int) + z, ?_⟩
 show (x i + mv i) * _ = _
 rw [cast, Rat.intCast_add, Rat.intCast_mul, ← ex, ← ez]
 grind
theorem CB.fb {n e : Nat} {x : Nat → Rat} (h : CB n e x) (he : 0 < e) {i s : Nat} (hi : i < n) (hs : sz s (x i)) : Ow.fb e (2 ^ s * e) (x i) := by
 obtain ⟨z, ez⟩ := h i hi
 refine ⟨he, z, ez, ?_⟩
 have d0 : (((x i).den : Int) : Rat) ≠ 0 := by
  have := (x i).den_nz
  intro q
  have : ((x i).den : Int) = 0 := by exact_mod_cast q
  omega
 have e2 : (x i).num * (e : Int) = z * ((x i).den : Int) := by
  have : ((((x i).num * (e : Int) : Int)) : Rat) = ((z * ((x i).den : Int) : Int) : Rat) := by
   rw [Rat.intCast_mul, Rat.intCast_mul, ← ez]
   have nd : ((x i).num : Rat) = x i * (((x i).den : Int) : Rat) := (rat_den (x i)).symm
   rw [nd]
   grind
  exact_mod_cast this
 have e3 : (x i).num.natAbs * e = z.natAbs * (x i).den := by
  have := congrArg Int.natAbs e2
  rwa [Int.natAbs_mul, Int.natAbs_mul, Int.natAbs_natCast, Int.natAbs_natCast] at this
 have : z.natAbs ≤ z.natAbs * (x i).den := Nat.le_mul_of_pos_right _ (x i).den_pos
 exact Nat.le_trans this (by rw [← e3]; exact Nat.mul_le_mul_right _ (Nat.le_of_lt hs.1))
end Ow
namespace Ow
open PySem PySem.Spec PySem.SeqAt PyProof.Rows L2
section
variable {κ : Type} [DecidableEq κ]
def addG (ks : List κ) (k : κ) : List κ := if k ∈ ks then ks else ks ++ [k]
def updG (f : κ → Rat) (k : κ) (x : Rat) : κ → Rat := fun j => if j = k then x else f j
theorem mem_addG {ks : List κ} {k j : κ} : j ∈ addG ks k ↔ j ∈ ks ∨ j = k := by
 unfold addG
 split
 · rename_i h
   exact ⟨.inl, fun q => q.elim id fun e => e ▸ h⟩
 · rw [List.mem_append, List.mem_singleton]
theorem nodup_addG {ks : List κ} {k : κ} (h : ks.Nodup) : (addG ks k).Nodup := by
 unfold addG
 split
 · exact h
 · rename_i m
   rw [List.nodup_append]
   exact ⟨h, by simp, fun a ha b hb e => m (by rw [List.mem_singleton] at hb; rw [← hb, ← e]; exact ha)⟩
theorem addG_ne {ks : List κ} {k : κ} : addG ks k ≠ [] := by
 unfold addG
 split
 · rename_i h
   intro e
   rw [e] at h
   cases h
 · simp
structure DcG (ks : List κ) (f : κ → Rat) : Prop where
 nd : ks.Nodup
 mem : ∀ k, k ∈ ks ↔ f k ≠ 0
theorem DcG.out {ks : List κ} {f : κ → Rat} (h : DcG ks f) {k : κ} (m : k ∉ ks) : f k = 0 := by
 by_cases e : f k = 0
 · exact e
 · exact absurd ((h.mem k).mpr e) m
theorem DcG.sub {ks U : List κ} {f : κ → Rat} (h : DcG ks f) (z : ∀ k, k ∉ U → f k = 0) : ∀ k ∈ ks, k ∈ U := fun k hk => by
 by_cases e : k ∈ U
 · exact e
 · exact absurd (z k e) ((h.mem k).mp hk)
theorem nodup_lenG {ks U : List κ} (nd : ks.Nodup) (h : ∀ k ∈ ks, k ∈ U) : ks.length ≤ U.length := List.Nodup.length_le_of_subset nd h
theorem DcG.nil : DcG ([] : List κ) fun _ => 0 := ⟨by simp, by simp⟩
def lessG (ks ls : List κ) (h : κ → Rat) : List κ := (ls.foldl addG ks).filter fun k => decide (h k ≠ 0)
theorem mem_foldG : ∀ (ls ks : List κ) (j : κ), j ∈ ls.foldl addG ks ↔ j ∈ ks ∨ j ∈ ls
 | [], ks, j => by simp
 | a :: l, ks, j => by rw [List.foldl_cons, mem_foldG l, mem_addG, List.mem_cons]; exact ⟨fun q => q.elim (fun z => z.elim .inl (fun e => .inr (.inl e))) (fun z => .inr (.inr z)), fun q => q.elim (fun z => .inl (.inl z)) fun z => z.elim (fun e => .inl (.inr e)) .inr⟩
theorem nodup_foldG : ∀ (ls : List κ) {ks : List κ}, ks.Nodup → (ls.foldl addG ks).Nodup
 | [], ks, h => h
 | a :: l, ks, h => nodup_foldG l (nodup_addG h)
theorem DcG.less {ks ls : List κ} {f g : κ → Rat} (hf : DcG ks f) (hg : DcG ls g) (q : Rat) : DcG (lessG ks ls fun k => f k - q * g k) fun k => f k - q * g k := by
 refine ⟨(nodup_foldG ls hf.nd).filter _, fun k => ?_⟩
 unfold lessG
 rw [List.mem_filter, mem_foldG, decide_eq_true_iff]
 refine ⟨fun h => h.2, fun h => ⟨?_, h⟩⟩
 by_cases m : k ∈ ks
 · exact .inl m
 · by_cases m2 : k ∈ ls
   · exact .inr m2
   · refine absurd ?_ h
     show f k - q * g k = 0
     rw [hf.out m, hg.out m2]
     grind
end
class KK (κ : Type) [DecidableEq κ] where
 kd : κ → D
 ku : κ → KeyU
 od : List κ → (κ → Rat) → D
 ox : List κ → (κ → Rat) → D
 hok : List κ → Prop
 hok0 : hok []
 flat : ∀ k, (kd k).flat = true
 get : ∀ (d : D) (ks : List κ) (f : κ → Rat), d = .fzd (ks.map ku) (ks.map fun k => enc (f k)) ∨ d = od ks f ∨ d = ox ks f → (∀ k, k ∉ ks → f k = 0) → ∀ (r : Nat) (σ : List D) (ge : List D → ER D) (k : κ), σ.getD r .non = d → ge σ = .ok (kd k) σ → eGet2 r ge (eC (.tup [.int 0, .int 1])) σ = .ok (enc (f k)) σ
 ix : ∀ (ks : List κ) (f : κ → Rat) (k : κ), k ∈ ks → dIx2 (.fzd (ks.map ku) (ks.map fun k => enc (f k))) (kd k) = some (enc (f k))
 cpy : ∀ (ks : List κ) (f : κ → Rat), hok ks → fDictC2 [.fzd (ks.map ku) (ks.map fun k => enc (f k))] = some (od ks f)
 put : ∀ (ks : List κ) (f : κ → Rat) (k : κ) (x : Rat) (r : Nat) (σ : List D) (gv gi : List D → ER D), r < σ.length → ks.length < 10000 → σ.getD r .non = od ks f → gi σ = .ok (kd k) σ → gi (σ.set r (ox ks f)) = .ok (kd k) (σ.set r (ox ks f)) → gv (σ.set r (ox ks f)) = .ok (enc x) (σ.set r (ox ks f)) → sSet2 r gv gi σ = .nxt (σ.set r (od (addG ks k) (updG f k x)))
 walkF : ∀ (ks : List κ) (f : κ → Rat) (r : Nat) (σ : List D), σ.getD r .non = .fzd (ks.map ku) (ks.map fun k => enc (f k)) → gKeys2F r σ = .ok (ks.map kd) σ
 walk : ∀ (ks : List κ) (f : κ → Rat) (r : Nat) (σ : List D), σ.getD r .non = od ks f → gKeys2 r σ = .ok (ks.map kd) (σ.set r (.fzd (ks.map ku) (ks.map fun k => enc (f k))))
 dic : ∀ (ks : List κ) (f : κ → Rat), ks.Nodup → fDictP2 [.lst (ks.map fun k => D.tup [kd k, enc (f k)])] = some (.fzd (ks.map ku) (ks.map fun k => enc (f k)))
 emp : ∀ (ks : List κ) (f : κ → Rat), dEmp2 (.fzd (ks.map ku) (ks.map fun k => enc (f k))) (.dK []) = some (.bl ks.isEmpty)
 mn : ∀ (ks : List κ) (f : κ → Rat), ks ≠ [] → ∃ j, j ∈ ks ∧ fMinU2 (.fzd (ks.map ku) (ks.map fun k => enc (f k))) = some (kd j)
theorem flats_encG {κ : Type} (ks : List κ) (f : κ → Rat) : D.flats (ks.map fun k => enc (f k)) = true := by
 induction ks with
 | nil => rfl
 | cons a l ih => show (_ && _) = true; rw [flat_enc, Bool.true_and]; exact ih
theorem getU_st {r : Nat} {σ : List D} {ge : List D → ER D} {y z : D} (h : (asFz (σ.getD r .non)).isSome = true) (e : ge σ = .ok y σ) (g : fGetU (σ.getD r .non) y (.tup [.int 0, .int 1]) = some z) : eGetU r ge (eC (.tup [.int 0, .int 1])) σ = .ok z σ := by
 rw [a_getU h, e, gU2_o]
 show gU3 r y (.ok _ σ) = _
 rw [gU3_o, g]
 rfl
instance : KK Nat where
 kd := fun k => .int k
 ku := kU
 od := dkD
 ox := dkD
 hok := fun _ => True
 hok0 := trivial
 flat := fun _ => rfl
 get := fun d ks f hd hf r σ ge k e1 e2 => by
  unfold eGet2
  rw [e2, if_neg (show ¬ isTpR (.ok (.int k) σ) = true from Bool.false_ne_true)]
  rcases hd with hd | hd | hd
  · exact getU_st (by rw [e1, hd]; exact (congrArg Option.isSome (asFz_fd ks f)).trans rfl) e2 (by rw [e1, hd]; exact getU_of (asFz_fd ks f) hf k)
  · exact getU_st (by rw [e1, hd]; exact (congrArg Option.isSome (asFz_dk ks f)).trans rfl) e2 (by rw [e1, hd]; exact getU_of (asFz_dk ks f) hf k)
  · exact getU_st (by rw [e1, hd]; exact (congrArg Option.isSome (asFz_dk ks f)).trans rfl) e2 (by rw [e1, hd]; exact getU_of (asFz_dk ks f) hf k)
 ix := fun ks f k h => ixF_fd h
 cpy := fun ks f _ => by
  unfold fDictC2
  rw [if_neg, show D.fzd (ks.map kU) (ks.map fun k => enc (f k)) = fdD ks f from rfl, dictC_fd]
  show ¬ ftOne (.fzd (ks.map kU) _) = true
  unfold ftOne asFt
  cases ks with
  | nil => exact Bool.false_ne_true
  | cons a l => exact Bool.false_ne_true
 put := fun ks f k x r σ gv gi hr hl e1 e2 e3 e4 => by
  have es : σ.set r (dkD ks f) = σ := by
   rw [← e1, List.getD_eq_getElem?_getD, List.getElem?_eq_getElem hr]
   exact List.set_getElem_self hr
  rw [es] at e3 e4
  unfold sSet2
  rw [e2, if_neg (show ¬ isTpR (.ok (.int k) σ) = true from Bool.false_ne_true)]
  unfold sSetD sOf
  rw [e4]
  dsimp only
  rw [e2]
  dsimp only
  rw [e1, put_dk hl]
  rfl
 walkF := fun ks f r σ h => by
  unfold gKeys2F
  rw [h, if_neg, keysF_fd (ks := ks) (f := f) h]
  cases ks <;> exact Bool.false_ne_true
 walk := fun ks f r σ h => by
  unfold gKeys2
  rw [h, if_neg, keysU_dk h]
  · rfl
  · exact Bool.false_ne_true
 dic := fun ks f nd => by
  unfold fDictP2
  rw [if_neg, dictP_fd nd]
  · rfl
  · cases ks with
    | nil => exact Bool.false_ne_true
    | cons a l => exact Bool.false_ne_true
 emp := fun ks f => by
  have h : dEmp (.fzd (ks.map kU) (ks.map fun k => enc (f k))) = some (.bl ks.isEmpty) := empE_fd ks f
  show (dEmp _).or _ = _
  rw [h]
  rfl
 mn := fun ks f h => by
  obtain ⟨j, h1, _, h2⟩ := minK_fd f h
  refine ⟨j, h1, ?_⟩
  unfold fMinU2
  rw [if_neg]
  · exact h2
  · show ¬ ftOne (.fzd (ks.map kU) _) = true
    unfold ftOne asFt
    cases ks with
    | nil => exact absurd rfl h
    | cons a l => exact Bool.false_ne_true
def tU (k : List Int) : KeyU := .inr k
def tdD (ks : List (List Int)) (f : List Int → Rat) : D := .dT (ks.map fun k => (k, enc (f k)))
def toD (ks : List (List Int)) (f : List Int → Rat) : D := if ks.isEmpty = true then .dK [] else tdD ks f
theorem tups_tU (ks : List (List Int)) : tupsU (ks.map tU) = some ks := tupsU_map ks
theorem asFt_fd (ks : List (List Int)) (f : List Int → Rat) : asFt (.fzd (ks.map tU) (ks.map fun k => enc (f k))) = some (ks.map fun k => (k, enc (f k))) := by
 show (tupsU (ks.map tU)).map _ = _
 rw [tups_tU]
 show some (ks.zip (ks.map fun k => enc (f k))) = _
 congr 1
 induction ks with
 | nil => rfl
 | cons a l ih => rw [List.map_cons, List.map_cons, List.zip_cons_cons, ih]
theorem asFt_td (ks : List (List Int)) (f : List Int → Rat) : asFt (tdD ks f) = some (ks.map fun k => (k, enc (f k))) := rfl
theorem asFt_to (ks : List (List Int)) (f : List Int → Rat) : asFt (toD ks f) = some (ks.map fun k => (k, enc (f k))) := by
 unfold toD
 cases ks <;> rfl
theorem dFind_map (f : List Int → Rat) (k : List Int) : ∀ ks : List (List Int), dFind (ks.map fun k => (k, enc (f k))) k = if k ∈ ks then some (enc (f k)) else none
 | [] => rfl
 | a :: l => by
  have ih := dFind_map f k l
  unfold dFind at ih ⊢
  rw [List.map_cons, List.find?_cons]
  by_cases h : a = k
  · subst h
    simp
  · simp only [decide_eq_false h, List.mem_cons]
    rw [ih]
    have : (k = a ∨ k ∈ l) ↔ k ∈ l := ⟨fun q => q.resolve_left fun e => h e.symm, .inr⟩
    simp only [this]
theorem getY_of {d : D} {ks : List (List Int)} {f : List Int → Rat} (e : asFt d = some (ks.map fun k => (k, enc (f k)))) (h : ∀ k, k ∉ ks → f k = 0) (k : List Int) : getTY d (pwD k) (.tup [.int 0, .int 1]) = some (enc (f k)) := by
 unfold getTY
 rw [e]
 show (intsOf (k.map D.int)).bind (fun ks' => if ((dFind (ks.map fun k => (k, enc (f k))) ks').getD (.tup [.int 0, .int 1])).flat = true then some ((dFind (ks.map fun k => (k, enc (f k))) ks').getD (.tup [.int 0, .int 1])) else none) = _
 rw [intsOf_ints]
 show (if ((dFind (ks.map fun k => (k, enc (f k))) k).getD (.tup [.int 0, .int 1])).flat = true then some ((dFind (ks.map fun k => (k, enc (f k))) k).getD (.tup [.int 0, .int 1])) else none) = _
 rw [dFind_map]
 by_cases m : k ∈ ks
 · rw [if_pos m]
   exact if_pos (flat_enc _)
 · rw [if_neg m, h k m]
   rfl
theorem getY_st {r : Nat} {σ : List D} {ge : List D → ER D} {y z : D} (h : (asFt (σ.getD r .non)).isSome = true) (e : ge σ = .ok y σ) (g : getTY (σ.getD r .non) y (.tup [.int 0, .int 1]) = some z) : eGetY r ge (eC (.tup [.int 0, .int 1])) σ = .ok z σ := by
 unfold eGetY
 rw [if_pos h, e]
 show ER.bind (.ok _ σ) _ = _
 show ofO (getTY (σ.getD r .non) y _) σ = _
 rw [g]
 rfl
theorem anyKey (ks : List (List Int)) (f : List Int → Rat) (k : List Int) : ((ks.map fun k => (k, enc (f k))).any fun kv => decide (kv.1 = k)) = decide (k ∈ ks) := by
 rw [List.any_map, Bool.eq_iff_iff, List.any_eq_true, decide_eq_true_iff]
 constructor
 · rintro ⟨j, hj, e⟩
   have := of_decide_eq_true e
   rw [← show j = k from this]; exact hj
 · exact fun h => ⟨k, h, decide_eq_true rfl⟩
theorem put_td {ks : List (List Int)} {f : List Int → Rat} {k : List Int} {x : Rat} (hl : ks.length < 10000) : dPutT (tdD ks f) (pwD k) (enc x) = some (tdD (addG ks k) (updG f k x)) := by
 have l2 : (ks.map fun k => (k, enc (f k))).length < sizeLine := by
  rw [List.length_map]
  exact Nat.lt_of_lt_of_le hl (by decide)
 show (if (enc x).flat = true ∧ (ks.map fun k => (k, enc (f k))).length < sizeLine then (intsOf (k.map D.int)).map _ else none) = _
 rw [if_pos ⟨flat_enc _, l2⟩, intsOf_ints]
 show some (D.dT (dPut _ k (enc x))) = _
 unfold dPut addG tdD
 rw [anyKey]
 by_cases h : k ∈ ks
 · rw [decide_eq_true h, if_pos rfl, if_pos h, List.map_map]
   refine congrArg (fun l => some (D.dT l)) (List.map_congr_left fun j hj => ?_)
   show (if j = k then (j, enc x) else (j, enc (f j))) = _
   unfold updG
   by_cases e : j = k
   · rw [if_pos e, if_pos e]
   · rw [if_neg e, if_neg e]
 · rw [decide_eq_false h, if_neg (by simp), if_neg h, List.map_append]
   refine congrArg (fun l => some (D.dT l)) (congr (congrArg _ (List.map_congr_left fun j hj => ?_)) ?_)
   · unfold updG
     rw [if_neg (fun e : j = k => h (e ▸ hj))]
   · show [(k, enc x)] = [(k, enc (updG f k x k))]
     unfold updG
     rw [if_pos rfl]
theorem minT_mem : ∀ {l : List (List Int)}, l ≠ [] → minT l ∈ l := by
 have key : ∀ (l : List (List Int)) (a : List Int), l.foldl (fun m x => if HT.lexLt x m = true then x else m) a = a ∨ l.foldl (fun m x => if HT.lexLt x m = true then x else m) a ∈ l := by
  intro l
  induction l with
  | nil => exact fun a => .inl rfl
  | cons b l ih =>
   intro a
   rw [List.foldl_cons]
   rcases ih (if HT.lexLt b a = true then b else a) with h | h
   · rw [h]
     split
     · exact .inr List.mem_cons_self
     · exact .inl rfl
   · exact .inr (List.mem_cons_of_mem _ h)
 intro l h
 cases l with
 | nil => exact absurd rfl h
 | cons a l =>
  show l.foldl _ a ∈ _
  rcases key l a with e | e
  · rw [e]; exact List.mem_cons_self
  · exact List.mem_cons_of_mem _ e
instance : KK (List Int) where
 kd := pwD
 ku := tU
 od := toD
 ox := tdD
 hok := fun ks => (ks.map hashT).Nodup
 hok0 := List.nodup_nil
 flat := flat_pw
 get := fun d ks f hd hf r σ ge k e1 e2 => by
  unfold eGet2
  rw [e2, if_pos (show isTpR (.ok (pwD k) σ) = true from rfl)]
  rcases hd with hd | hd | hd
  · exact getY_st (by rw [e1, hd, asFt_fd]; rfl) e2 (by rw [e1, hd]; exact getY_of (asFt_fd ks f) hf k)
  · exact getY_st (by rw [e1, hd, asFt_to]; rfl) e2 (by rw [e1, hd]; exact getY_of (asFt_to ks f) hf k)
  · exact getY_st (by rw [e1, hd]; rfl) e2 (by rw [e1, hd]; exact getY_of (asFt_td ks f) hf k)
 ix := fun ks f k h => by
  show dIxY _ (pwD k) = _
  unfold dIxY
  rw [asFt_fd]
  show (intsOf (k.map D.int)).bind (fun ks' => (dFind (ks.map fun k => (k, enc (f k))) ks').bind fun v => if v.flat = true then some v else none) = _
  rw [intsOf_ints]
  show (dFind (ks.map fun k => (k, enc (f k))) k).bind _ = _
  rw [dFind_map, if_pos h]
  rfl
 cpy := fun ks f h => by
  unfold fDictC2 isCL
  cases ks with
  | nil => rfl
  | cons a l =>
   have e0 := asFt_fd (a :: l) f
   have e1 : ftOne (.fzd ((a :: l).map tU) ((a :: l).map fun k => enc (f k))) = true := by unfold ftOne; rw [e0]; rfl
   rw [if_pos e1]
   show (asFt (.fzd ((a :: l).map tU) ((a :: l).map fun k => enc (f k)))).bind _ = _
   rw [e0]
   show (if D.flats (((a :: l).map fun k => (k, enc (f k))).map (·.2)) = true ∧ (((a :: l).map fun k => (k, enc (f k))).map fun kv => hashT kv.1).Nodup then some (D.dT ((a :: l).map fun k => (k, enc (f k)))) else none) = _
   rw [if_pos]
   · rfl
   · rw [List.map_map, List.map_map]
     exact ⟨flats_encG (a :: l) f, h⟩
 put := fun ks f k x r σ gv gi hr hl e1 e2 e3 e4 => by
  have ex : toX r σ = σ.set r (tdD ks f) := by
   unfold toX
   rw [e1]
   unfold toD
   cases ks with
   | nil => rfl
   | cons a l =>
    show σ = σ.set r (tdD (a :: l) f)
    have e1' : σ.getD r .non = tdD (a :: l) f := e1
    rw [← e1', List.getD_eq_getElem?_getD, List.getElem?_eq_getElem hr]
    exact (List.set_getElem_self hr).symm
  unfold sSet2
  rw [e2, if_pos (show isTpR (.ok (pwD k) σ) = true from rfl), ex]
  unfold sSetT sOf
  rw [e4]
  dsimp only
  rw [e3]
  dsimp only
  have g : (σ.set r (tdD ks f)).getD r .non = tdD ks f := by rw [List.getD_eq_getElem?_getD, List.getElem?_set_self hr]; rfl
  rw [g, put_td hl]
  dsimp only
  rw [List.set_set]
  have : toD (addG ks k) (updG f k x) = tdD (addG ks k) (updG f k x) := by
   unfold toD
   rw [if_neg]
   intro e
   exact addG_ne (List.isEmpty_iff.mp e)
  rw [this]
 walkF := fun ks f r σ h => by
  unfold gKeys2F
  rw [h]
  cases ks with
  | nil =>
   rw [if_neg (show ¬ isYD (.fzd (([] : List (List Int)).map tU) (([] : List (List Int)).map fun k => enc (f k))) = true from Bool.false_ne_true)]
   unfold gKeysF
   rw [h]
   rfl
  | cons a l =>
   rw [if_pos (by rfl)]
   unfold gKeysYF
   rw [h]
   show (match tupsU ((a :: l).map tU) with | some (l :: q) => ER.ok ((l :: q).map fun k : List Int => D.tup (k.map D.int)) σ | _ => .stuck) = _
   rw [tups_tU]
   rfl
 walk := fun ks f r σ h => by
  unfold gKeys2
  rw [h]
  cases ks with
  | nil =>
   rw [if_neg (show ¬ isYD (toD [] f) = true from Bool.false_ne_true)]
   unfold gKeysU
   rw [h]
   rfl
  | cons a l =>
   rw [if_pos (by rfl)]
   unfold gKeysY
   rw [h]
   show (if D.flats (((a :: l).map fun k => (k, enc (f k))).map (·.2)) = true ∧ ((a :: l).map fun k => (k, enc (f k))) ≠ [] then ER.ok (((a :: l).map fun k => (k, enc (f k))).map fun kv => D.tup (kv.1.map D.int)) (σ.set r (.fzd (((a :: l).map fun k => (k, enc (f k))).map fun kv => (.inr kv.1 : KeyU)) (((a :: l).map fun k => (k, enc (f k))).map (·.2)))) else .stuck) = _
   rw [List.map_map, List.map_map, List.map_map]
   exact if_pos ⟨flats_encG (a :: l) f, by simp⟩
 dic := fun ks f nd => by
  unfold fDictP2
  cases ks with
  | nil => rfl
  | cons a l =>
   rw [if_pos (by rfl)]
   have e : ∀ l : List (List Int), pairsT (l.map fun k => D.tup [pwD k, enc (f k)]) = some (l.map fun k => (k, enc (f k))) := by
    intro l
    induction l with
    | nil => rfl
    | cons a l ih =>
     have : pairT (D.tup [pwD a, enc (f a)]) = some (a, enc (f a)) := by
      show (if (enc (f a)).flat = true then (intsOf (a.map D.int)).map _ else none) = _
      rw [intsOf_ints]
      rfl
     show ((pairT (D.tup [pwD a, enc (f a)])).bind fun p => (pairsT (l.map fun k => D.tup [pwD k, enc (f k)])).map fun ps => p :: ps) = _
     rw [this, ih]
     rfl
   show (pairsT ((a :: l).map fun k => D.tup [pwD k, enc (f k)])).bind _ = _
   rw [e]
   show (if (((a :: l).map fun k => (k, enc (f k))).map (·.1)).Nodup ∧ ((a :: l).map fun k => (k, enc (f k))) ≠ [] then _ else _) = _
   rw [if_pos, List.map_map, List.map_map]
   · rfl
   · refine ⟨?_, by simp⟩
     rw [List.map_map]
     show ((a :: l).map id).Nodup
     rw [List.map_id]
     exact nd
 emp := fun ks f => by
  have h : dEmpY (.fzd (ks.map tU) (ks.map fun k => enc (f k))) = some (.bl ks.isEmpty) := by
   show (asFt _).map _ = _
   rw [asFt_fd]
   cases ks <;> rfl
  show (dEmp _).or (dEmpY _) = _
  rw [h]
  cases ks with
  | nil => rfl
  | cons a l =>
   have : dEmp (.fzd ((a :: l).map tU) ((a :: l).map fun k => enc (f k))) = none := by
    unfold dEmp
    have e2 : asFz (.fzd ((a :: l).map tU) ((a :: l).map fun k => enc (f k))) = none := by
     unfold asFz
     exact if_neg (show ¬ ((a :: l).map tU).all isInl = true from Bool.false_ne_true)
    rw [e2]
    rfl
   rw [this]
   rfl
 mn := fun ks f h => by
  refine ⟨minT ks, minT_mem h, ?_⟩
  have e0 := asFt_fd ks f
  have e1 : ftOne (.fzd (ks.map tU) (ks.map fun k => enc (f k))) = true := by
   unfold ftOne
   rw [e0]
   cases ks with
   | nil => exact absurd rfl h
   | cons a l => rfl
  unfold fMinU2
  rw [if_pos e1]
  unfold fMinY
  rw [e0]
  show (if (ks.map fun k => (k, enc (f k))).isEmpty = true then none else some (D.tup ((minT ((ks.map fun k => (k, enc (f k))).map (·.1))).map D.int))) = _
  rw [if_neg, List.map_map]
  · show some (D.tup ((minT (ks.map id)).map D.int)) = _
    rw [List.map_id]
    rfl
  · intro e
    rw [List.isEmpty_iff] at e
    exact h (List.map_eq_nil_iff.mp e)
end Ow
namespace Ow
namespace SG
open PySem PySem.Spec PySem.SeqAt PyProof.Rows L2
section
variable {κ : Type} [DecidableEq κ] [KK κ] [Inhabited κ]
structure SRow (κ : Type) where
 lead : κ
 own : κ → Rat
 parts : Nat → Rat
 oK : List κ
 pK : List Nat
def ldS (s : (κ → Rat) × (Nat → Rat)) (r : SRow κ) : (κ → Rat) × (Nat → Rat) := (fun k => s.1 k - s.1 r.lead * r.own k, fun k => s.2 k - (0 - s.1 r.lead) * r.parts k)
def ld (rs : List (SRow κ)) (v : κ → Rat) : (κ → Rat) × (Nat → Rat) := rs.foldl ldS (v, fun _ => 0)
structure Sml (U : List κ) (f : κ → Rat) : Prop where
 sz : ∀ k, Ow.sz 2900 (f k)
 sup : ∀ k, k ∉ U → f k = 0
theorem Sml.len {U : List κ} {f : κ → Rat} (h : Sml U f) {ks : List κ} (d : DcG ks f) : ks.length ≤ U.length := nodup_lenG d.nd (d.sub h.sup)
def dlt (n : Nat) : Nat → Rat := fun k => if k = n then 1 else 0
def nwR (l : κ) (n : Nat) (s : (κ → Rat) × (Nat → Rat)) (oK : List κ) (pK : List Nat) : SRow κ := ⟨l, fun k => 0 - (0 - 1 / s.1 l) * s.1 k, fun k => 0 - (0 - 1 / s.1 l) * (dlt n k - 1 * s.2 k), oK, pK⟩
def ldQ : List (SRow κ) → (κ → Rat) → (κ → Rat) × (Nat → Rat)
 | [], v => (v, fun _ => 0)
 | r :: q, v => ldS (ldQ q v) r
inductive Sp (V : Nat → κ → Rat) : List (SRow κ) → List Nat → Prop
 | nil : Sp V [] []
 | cons {q : List (SRow κ)} {b : List Nat} {l : κ} {n : Nat} {oK : List κ} {pK : List Nat} (h : Sp V q b) (hl : (ldQ q (V n)).1 l ≠ 0) (hn : n ∉ b) : Sp V (nwR l n (ldQ q (V n)) oK pK :: q) (n :: b)
theorem Sp.len {V : Nat → κ → Rat} : ∀ {q : List (SRow κ)} {b : List Nat}, Sp V q b → q.length = b.length
 | _, _, .nil => rfl
 | _, _, .cons h _ _ => congrArg (· + 1) h.len
theorem Sp.drop {V : Nat → κ → Rat} : ∀ (j : Nat) {q : List (SRow κ)} {b : List Nat}, Sp V q b → Sp V (q.drop j) (b.drop j)
 | 0, _, _, h => h
 | j + 1, _, _, .nil => by simpa using Sp.nil
 | j + 1, _, _, .cons h _ _ => h.drop j
theorem Sp.mix0 {V : Nat → κ → Rat} (v : κ → Rat) {j : Nat} : ∀ {q : List (SRow κ)} {b : List Nat}, Sp V q b → j ∉ b → (ldQ q v).2 j = 0
 | _, _, .nil, _ => rfl
 | _, _, .cons (q := q) (l := l) (n := n) h hl hn, hj => by
  rw [List.mem_cons] at hj
  show (ldQ q v).2 j - (0 - (ldQ q v).1 l) * (0 - (0 - 1 / (ldQ q (V n)).1 l) * (dlt n j - 1 * (ldQ q (V n)).2 j)) = 0
  rw [h.mix0 v (fun m => hj (.inr m)), h.mix0 (V n) (fun m => hj (.inr m))]
  unfold dlt
  rw [if_neg (fun e => hj (.inl e))]
  grind
theorem Sp.lead {V : Nat → κ → Rat} (v : κ → Rat) : ∀ {q : List (SRow κ)} {b : List Nat}, Sp V q b → ∀ r ∈ q, (ldQ q v).1 r.lead = 0
 | _, _, .nil, r, hr => by simp at hr
 | _, _, .cons (q := q) (l := l) (n := n) (oK := oK) (pK := pK) h hl hn, r, hr => by
  have key : ∀ k, (ldQ (nwR l n (ldQ q (V n)) oK pK :: q) v).1 k = (ldQ q v).1 k - (ldQ q v).1 l * (0 - (0 - 1 / (ldQ q (V n)).1 l) * (ldQ q (V n)).1 k) := fun k => rfl
  rw [key]
  rcases List.mem_cons.mp hr with rfl | hr
  · show (ldQ q v).1 l - (ldQ q v).1 l * (0 - (0 - 1 / (ldQ q (V n)).1 l) * (ldQ q (V n)).1 l) = 0
    have : 1 / (ldQ q (V n)).1 l * (ldQ q (V n)).1 l = 1 := Rat.div_mul_cancel hl
    grind
  · rw [h.lead v r hr, h.lead (V n) r hr]
    grind
theorem Sp.eq {V : Nat → κ → Rat} (v : κ → Rat) (k : κ) : ∀ {q : List (SRow κ)} {b : List Nat}, Sp V q b → v k = (ldQ q v).1 k + sumF (fun i => (ldQ q v).2 (b.getD i 0) * V (b.getD i 0) k) b.length
 | _, _, .nil => by
  show v k = v k + 0
  grind
 | _, _, .cons (q := q) (b := b) (l := l) (n := n) (oK := oK) (pK := pK) h hl hn => by
  have e1 := h.eq v k
  have e2 := h.eq (V n) k
  have m1 := h.mix0 v hn
  have m2 := h.mix0 (V n) hn
  obtain ⟨s, hs⟩ : ∃ s, s = ldQ q v := ⟨_, rfl⟩
  obtain ⟨t, ht⟩ : ∃ t, t = ldQ q (V n) := ⟨_, rfl⟩
  have d1 : ∀ k, (ldQ (nwR l n (ldQ q (V n)) oK pK :: q) v).1 k = s.1 k - s.1 l * (0 - (0 - 1 / t.1 l) * t.1 k) := fun k => by rw [hs, ht]; rfl
  have d2 : ∀ k, (ldQ (nwR l n (ldQ q (V n)) oK pK :: q) v).2 k = s.2 k - (0 - s.1 l) * (0 - (0 - 1 / t.1 l) * (dlt n k - 1 * t.2 k)) := fun k => by rw [hs, ht]; rfl
  rw [← hs] at e1 m1
  rw [← ht] at e2 m2 hl
  obtain ⟨c, hc⟩ : ∃ c, c = s.1 l * (1 / t.1 l) := ⟨_, rfl⟩
  have g1 : (ldQ (nwR l n (ldQ q (V n)) oK pK :: q) v).1 k = s.1 k - c * t.1 k := by rw [d1, hc]; grind
  have g2 : ∀ j, (ldQ (nwR l n (ldQ q (V n)) oK pK :: q) v).2 j = s.2 j + c * (dlt n j - t.2 j) := fun j => by rw [d2, hc]; grind
  have su : sumF (fun i => (ldQ (nwR l n (ldQ q (V n)) oK pK :: q) v).2 (b.getD i 0) * V (b.getD i 0) k) b.length = sumF (fun i => s.2 (b.getD i 0) * V (b.getD i 0) k) b.length - c * sumF (fun i => t.2 (b.getD i 0) * V (b.getD i 0) k) b.length := by
   rw [← sumF_mul, ← sumF_sub]
   refine sumF_congr fun i hi => ?_
   have hb : b.getD i 0 ∈ b := by rw [List.getD_eq_getElem?_getD, List.getElem?_eq_getElem hi]; exact List.getElem_mem hi
   rw [g2]
   unfold dlt
   rw [if_neg (fun e : b.getD i 0 = n => hn (e ▸ hb))]
   grind
  rw [List.length_cons, sumF_first]
  show v k = _ + ((ldQ (nwR l n (ldQ q (V n)) oK pK :: q) v).2 n * V n k + sumF (fun i => (ldQ (nwR l n (ldQ q (V n)) oK pK :: q) v).2 (b.getD i 0) * V (b.getD i 0) k) b.length)
  rw [su, g1, g2 n, m1, m2]
  unfold dlt
  rw [if_pos rfl]
  grind
def ldsL (q : List (SRow κ)) : List κ := q.map SRow.lead
def spM (V : Nat → κ → Rat) (L : List κ) (b : List Nat) : Nat → Nat → Rat := fun a c => V (b.getD c 0) (L.getD a default)
def bdM (V : Nat → κ → Rat) (v : κ → Rat) (k : κ) (L : List κ) (b : List Nat) : Nat → Nat → Rat := fun a c => if c = 0 then v ((k :: L).getD a default) else V (b.getD (c - 1) 0) ((k :: L).getD a default)
theorem bdM_self (V : Nat → κ → Rat) (n : Nat) (k : κ) (L : List κ) (b : List Nat) : bdM V (V n) k L b = spM V (k :: L) (n :: b) := by
 funext a c
 unfold bdM spM
 cases c with
 | zero => rfl
 | succ c => rw [if_neg (by omega)]; rfl
theorem lead_at {V : Nat → κ → Rat} {q : List (SRow κ)} {b : List Nat} (h : Sp V q b) (v : κ → Rat) {a : Nat} (ha : a < b.length) : (ldQ q v).1 ((ldsL q).getD a default) = 0 := by
 have hq : a < q.length := by rw [h.len]; exact ha
 have e : (ldsL q).getD a default = (q[a]).lead := by
  unfold ldsL
  rw [List.getD_eq_getElem?_getD, List.getElem?_map, List.getElem?_eq_getElem hq]
  rfl
 rw [e]
 exact h.lead v _ (List.getElem_mem hq)
theorem Sp.border {V : Nat → κ → Rat} {q : List (SRow κ)} {b : List Nat} (h : Sp V q b) (v : κ → Rat) (k : κ) : dt (b.length + 1) (bdM V v k (ldsL q) b) = (ldQ q v).1 k * dt b.length (spM V (ldsL q) b) := by
 obtain ⟨S, hS⟩ : ∃ S : Nat → Nat → Rat, S = fun a c => if c = 0 then (if a = 0 then 1 else 0) else V (b.getD (c - 1) 0) ((k :: ldsL q).getD a default) := ⟨_, rfl⟩
 obtain ⟨x, hx⟩ : ∃ x : Nat → Rat, x = fun c => if c = 0 then (ldQ q v).1 k else (ldQ q v).2 (b.getD (c - 1) 0) := ⟨_, rfl⟩
 have cm := cramer_mix (n := b.length + 1) (i := 0) (S := S) (x := x) (b := fun a => v ((k :: ldsL q).getD a default)) (by omega) (fun a ha => by
  rw [sumF_first]
  have e := h.eq v ((k :: ldsL q).getD a default)
  have s0 : S a 0 * x 0 = (if a = 0 then (ldQ q v).1 k else 0) := by
   rw [hS, hx]
   show (if a = 0 then (1 : Rat) else 0) * (ldQ q v).1 k = _
   split <;> grind
  have l0 : (ldQ q v).1 ((k :: ldsL q).getD a default) = (if a = 0 then (ldQ q v).1 k else 0) := by
   cases a with
   | zero => rfl
   | succ a =>
    rw [if_neg (by omega)]
    exact lead_at h v (a := a) (by omega)
  rw [s0, ← l0]
  refine e.trans (congrArg _ (sumF_congr fun i hi => ?_))
  rw [hS, hx]
  show _ = (if i + 1 = 0 then _ else V (b.getD (i + 1 - 1) 0) _) * (if i + 1 = 0 then _ else (ldQ q v).2 (b.getD (i + 1 - 1) 0))
  rw [if_neg (by omega), if_neg (by omega), Nat.add_sub_cancel]
  exact Rat.mul_comm _ _)
 have e1 : (fun a c => if c = 0 then v ((k :: ldsL q).getD a default) else S a c) = bdM V v k (ldsL q) b := by
  funext a c
  unfold bdM
  rw [hS]
  dsimp only
  by_cases h : c = 0
  · rw [if_pos h, if_pos h]
  · rw [if_neg h, if_neg h, if_neg h]
 have e2 : dt (b.length + 1) S = dt b.length (spM V (ldsL q) b) := by
  rw [dt_peel (A := S) fun a ha => by rw [hS]; rfl]
  have : S 0 0 = 1 := by rw [hS]; rfl
  rw [this, Rat.one_mul]
  refine congrArg _ ?_
  funext a c
  rw [hS]
  show (if c + 1 = 0 then _ else V (b.getD (c + 1 - 1) 0) ((k :: ldsL q).getD (a + 1) default)) = spM V (ldsL q) b a c
  rw [if_neg (by omega)]
  rfl
 have e0 : x 0 = (ldQ q v).1 k := by rw [hx]; rfl
 rw [e1, e2, e0] at cm
 exact cm
theorem Sp.mixd {V : Nat → κ → Rat} {q : List (SRow κ)} {b : List Nat} (h : Sp V q b) (v : κ → Rat) {i : Nat} (hi : i < b.length) : dt b.length (fun a c => if c = i then v ((ldsL q).getD a default) else spM V (ldsL q) b a c) = (ldQ q v).2 (b.getD i 0) * dt b.length (spM V (ldsL q) b) :=
 cramer_mix (x := fun c => (ldQ q v).2 (b.getD c 0)) hi fun a ha => by
  have e := h.eq v ((ldsL q).getD a default)
  rw [lead_at h v ha, Rat.zero_add] at e
  exact e.trans (sumF_congr fun c _ => Rat.mul_comm _ _)
theorem Sp.det {V : Nat → κ → Rat} : ∀ {q : List (SRow κ)} {b : List Nat}, Sp V q b → dt b.length (spM V (ldsL q) b) ≠ 0
 | _, _, .nil => by show (1 : Rat) ≠ 0; decide
 | _, _, .cons (q := q) (b := b) (l := l) (n := n) (oK := oK) (pK := pK) h hl hn => by
  have e := h.border (V n) l
  rw [bdM_self] at e
  show dt (b.length + 1) (spM V (l :: ldsL q) (n :: b)) ≠ 0
  rw [e]
  exact mul_ne0 hl h.det
structure VB (U : List κ) (V : Nat → κ → Rat) (D N T : Nat) : Prop where
 D0 : 0 < D
 N0 : 0 < N
 fb : ∀ j k, Ow.fb D N (V j k)
 sup : ∀ j k, k ∉ U → V j k = 0
 big : fk T * N ^ T * D ^ T < 2 ^ 2900
theorem VB.le {V : Nat → κ → Rat} {U : List κ} {D N T : Nat} (h : VB U V D N T) {a b : Nat} (ha : a ≤ T) (hb : b ≤ T) : fk a * N ^ a * D ^ b < 2 ^ 2900 :=
 Nat.lt_of_le_of_lt (Nat.mul_le_mul (Nat.mul_le_mul (fk_mono ha) (Nat.pow_le_pow_right h.N0 ha)) (Nat.pow_le_pow_right h.D0 hb)) h.big
theorem VB.spM {V : Nat → κ → Rat} {U : List κ} {D N T : Nat} (h : VB U V D N T) (L : List κ) (b : List Nat) (i j : Nat) : Ow.fb D N (SG.spM V L b i j) := h.fb _ _
theorem VB.bdM {V : Nat → κ → Rat} {U : List κ} {D N T : Nat} (h : VB U V D N T) {v : κ → Rat} (hv : ∀ k, Ow.fb D N (v k)) (k : κ) (L : List κ) (b : List Nat) (i j : Nat) : Ow.fb D N (SG.bdM V v k L b i j) := by
 unfold SG.bdM
 split
 · exact hv _
 · exact h.fb _ _
end
end SG
end Ow
namespace Ow
namespace HJ
def hm : Nat := 18446744073709551616
def hP1 : Nat := 11400714785074694791
def hP2 : Nat := 14029467366897019727
def hI2 : Nat := 839798700976720815
def hP5 : Nat := 2870177450012600261
def ht (b : Nat) : Nat := ((b * 2147483648) % hm + b / 8589934592) * hP1 % hm
def hs (a x : Nat) : Nat := ((((a + x * hP2) % hm) * 2147483648) % hm + ((a + x * hP2) % hm) / 8589934592) * hP1 % hm
def pl (a : Nat) : Nat := a * hI2 % hm
inductive Tr where
 | lf
 | nd (l : Tr) (v w : Nat) (r : Tr)
noncomputable def ins (B u w : Nat) (t : Tr) : Option Tr := Tr.rec (some (.nd .lf u w .lf)) (fun l v y r il ir => Bool.rec (Bool.rec none (Option.rec none (fun r' => some (.nd l v y r')) ir) (Nat.ble y u)) (Option.rec none (fun l' => some (.nd l' v y r)) il) (Nat.ble w v)) t
noncomputable def lp (f : Nat → Tr → Option Tr) (b : Nat) (t : Tr) : Option Tr := Nat.rec (f 0 t) (fun k ih => Option.rec none (fun t' => f (k + 1) t') ih) b
section
variable {pl : Nat → Nat} {hs : Nat → Nat → Nat}
noncomputable def go (pl : Nat → Nat) (hs : Nat → Nat → Nat) (B l : Nat) : Nat → Nat → Tr → Option Tr := Nat.rec (fun _ a t => Nat.rec none (fun u _ => Nat.rec none (fun w _ => ins B u w t) (u + B + 1)) (pl a)) (fun _ ih b a t => lp (fun x t => Nat.rec none (fun k _ => Nat.rec (ih 0 (k + 1) t) (fun c _ => ih (c + 1) (k + 1) t) (b - x)) (hs a x)) b t) l
def mem (v : Nat) : Tr → Prop
 | .lf => False
 | .nd l u _ r => u = v ∨ mem v l ∨ mem v r
def Far (B u v : Nat) : Prop := u + B ≤ v ∨ v + B ≤ u
def U (pl : Nat → Nat) (hs : Nat → Nat → Nat) (a : Nat) (p : List Nat) : Nat := pl (p.foldl hs a) - 1
def Fits (l b : Nat) (p : List Nat) : Prop := p.length = l ∧ p.sum ≤ b
theorem Far.symm {B u v : Nat} (h : Far B u v) : Far B v u := Or.symm h
end
end HJ
end Ow
namespace Ow
open PySem PySem.Spec
namespace HJ
def fin (n acc : Nat) : Int := reduceHash (if (acc + (n ^^^ (hP5 ^^^ 3527539))) % hm == hm - 1 then 1546275796 else if (acc + (n ^^^ (hP5 ^^^ 3527539))) % hm < 2 ^ 63 then (((acc + (n ^^^ (hP5 ^^^ 3527539))) % hm : Nat) : Int) else (((acc + (n ^^^ (hP5 ^^^ 3527539))) % hm : Nat) : Int) - (hm : Int))
structure Sm (k : List Int) : Prop where
 nn : ∀ x ∈ k, 0 ≤ x
 le : k.sum ≤ 24
theorem Sm.each {k : List Int} (h : Sm k) : ∀ x ∈ k, 0 ≤ x ∧ x ≤ 24 := fun x hx => ⟨h.nn x hx, by
 obtain ⟨h1, h2⟩ := h
 induction k with
 | nil => cases hx
 | cons y k ih =>
  rw [List.sum_cons] at h2
  have y0 := h1 y List.mem_cons_self
  have s0 : ∀ l : List Int, (∀ x ∈ l, 0 ≤ x) → 0 ≤ l.sum := fun l => by
   induction l with
   | nil => intro _; exact Int.le_refl 0
   | cons z l ih => intro h; rw [List.sum_cons]; have := h z List.mem_cons_self; have := ih fun x hx => h x (List.mem_cons_of_mem _ hx); omega
  have := s0 k fun x hx => h1 x (List.mem_cons_of_mem _ hx)
  rcases List.mem_cons.mp hx with rfl | hx
  · omega
  · exact ih hx (fun x hx => h1 x (List.mem_cons_of_mem _ hx)) (by omega)⟩
theorem sum_nn : ∀ l : List Int, (∀ x ∈ l, 0 ≤ x) → ((l.map Int.toNat).sum : Int) = l.sum
 | [], _ => rfl
 | z :: l, h => by
  have e := sum_nn l fun x hx => h x (List.mem_cons_of_mem _ hx)
  have := h z List.mem_cons_self
  rw [List.map_cons, List.sum_cons, List.sum_cons, ← e]
  omega
theorem Sm.fits {p : List Int} {x : Int} (h : Sm (p ++ [x])) : Fits p.length 24 (p.map Int.toNat) ∧ 0 ≤ x ∧ x ≤ 24 := by
 have hp : ∀ y ∈ p, 0 ≤ y := fun y hy => h.nn y (List.mem_append_left _ hy)
 have e := sum_nn p hp
 have le := h.le
 rw [List.sum_append] at le
 have ex := h.each x (List.mem_append_right _ List.mem_cons_self)
 have sx : ([x] : List Int).sum = x := by simp
 rw [sx] at le
 refine ⟨⟨List.length_map _, by omega⟩, ex⟩
end HJ
end Ow
namespace Ow
open PySem PySem.Spec
namespace HJ
end HJ
end Ow
namespace Ow
def prodF (Q : Nat → Nat) : Nat → Nat
 | 0 => 1
 | n + 1 => Q 0 * prodF (fun i => Q (i + 1)) n
theorem prodF_congr {n : Nat} : ∀ {P Q : Nat → Nat}, (∀ i, i < n → P i = Q i) → prodF P n = prodF Q n := by
 induction n with
 | zero => intro P Q _; rfl
 | succ n ih =>
  intro P Q h
  show P 0 * _ = Q 0 * _
  rw [h 0 (by omega), ih fun i hi => h (i + 1) (by omega)]
theorem prodF_skp : ∀ (n j : Nat) (Q : Nat → Nat), j < n + 1 → Q j * prodF (fun b => Q (skp j b)) n = prodF Q (n + 1)
 | n, 0, Q, _ => rfl
 | 0, j + 1, Q, h => by omega
 | n + 1, j + 1, Q, h => by
  have e := prodF_skp n j (fun i => Q (i + 1)) (by omega)
  show Q (j + 1) * (Q (skp (j + 1) 0) * prodF (fun i => Q (skp (j + 1) (i + 1))) n) = Q 0 * prodF (fun i => Q (i + 1)) (n + 1)
  rw [← e]
  have s0 : skp (j + 1) 0 = 0 := by unfold skp; rw [if_pos (by omega)]
  have s1 : ∀ i, skp (j + 1) (i + 1) = skp j i + 1 := fun i => by unfold skp; split <;> split <;> omega
  rw [s0, prodF_congr (Q := fun i => Q (skp j i + 1)) fun i _ => by rw [s1]]
  exact Nat.mul_left_comm _ _ _
theorem fb_dtG {D : Nat} (hD : 0 < D) : ∀ {n : Nat} {A : Nat → Nat → Rat} {P Q : Nat → Nat}, (∀ i j, i < n → j < n → fb D (P i * Q j) (A i j)) → fb (D ^ n) (fk n * (prodF P n * prodF Q n)) (dt n A)
 | 0, _, _, _, _ => by
  show fb 1 (1 * (1 * 1)) 1
  exact fb.of_int 1 (by decide)
 | n + 1, A, P, Q, h => by
  have s := fb.sum (f := fun j => sg j * A 0 j * dt n fun a b => A (a + 1) (skp j b)) (d := D ^ (n + 1)) (M := fk n * (prodF P (n + 1) * prodF Q (n + 1))) (Nat.pow_pos hD) (n + 1) fun j hj => by
   have e := ((fb_sg j).mul (h 0 j (by omega) hj)).mul (fb_dtG hD (P := fun i => P (i + 1)) (Q := fun b => Q (skp j b)) fun a b ha hb => h (a + 1) (skp j b) (by omega) (skp_lt hj hb))
   rw [Nat.one_mul, Nat.one_mul, Nat.mul_comm D, ← Nat.pow_succ] at e
   refine e.mono (Nat.le_of_eq ?_)
   rw [← prodF_skp n j Q hj]
   show P 0 * Q j * (fk n * (prodF (fun i => P (i + 1)) n * prodF (fun b => Q (skp j b)) n)) = fk n * (P 0 * prodF (fun i => P (i + 1)) n * (Q j * prodF (fun b => Q (skp j b)) n))
   simp only [Nat.mul_assoc, Nat.mul_left_comm, Nat.mul_comm]
  refine s.mono (Nat.le_of_eq ?_)
  show (n + 1) * (fk n * (prodF P (n + 1) * prodF Q (n + 1))) = (n + 1) * fk n * (prodF P (n + 1) * prodF Q (n + 1))
  rw [Nat.mul_assoc]
theorem prodF_map {α : Type} (C : α → Nat) (x : α) : ∀ L : List α, prodF (fun i => C (L.getD i x)) L.length = (L.map C).prod
 | [] => rfl
 | a :: L => by
  rw [List.length_cons, List.map_cons, List.prod_cons, ← prodF_map C x L]
  rfl
namespace SG
open PySem PySem.Spec PySem.SeqAt PyProof.Rows L2
section
variable {κ : Type} [DecidableEq κ] [KK κ] [Inhabited κ]
structure VG (U : List κ) (V : Nat → κ → Rat) (D : Nat) (R : Nat → Nat) (C : κ → Nat) (T : Nat) : Prop where
 D0 : 0 < D
 fb : ∀ j k, Ow.fb D (C k * R j) (V j k)
 sup : ∀ j k, k ∉ U → V j k = 0
 big : ∀ (b : List Nat) (L : List κ), b.Nodup → L.Nodup → (∀ j ∈ b, j < T) → (∀ k ∈ L, k ∈ U) → L.length = b.length → fk b.length * ((L.map C).prod * (b.map R).prod) * D < 2 ^ 2900
theorem VG.det {U : List κ} {V : Nat → κ → Rat} {D : Nat} {R : Nat → Nat} {C : κ → Nat} {T : Nat} (h : VG U V D R C T) {L : List κ} {b : List Nat} (e : L.length = b.length) : Ow.fb (D ^ b.length) (fk b.length * ((L.map C).prod * (b.map R).prod)) (dt b.length (spM V L b)) := by
 have := fb_dtG h.D0 (n := b.length) (A := spM V L b) (P := fun i => C (L.getD i default)) (Q := fun j => R (b.getD j 0)) fun i j _ _ => h.fb _ _
 rw [prodF_map R 0 b] at this
 rw [← e, prodF_map C default L, e] at this
 exact this
section
variable {U : List κ} {V : Nat → κ → Rat} {D : Nat} {R : Nat → Nat} {C : κ → Nat} {T : Nat}
end
end
end SG
end Ow
namespace Ow
def bd (x B : Rat) : Prop := -B ≤ x ∧ x ≤ B
theorem bd.add {x y A B : Rat} (h : bd x A) (k : bd y B) : bd (x + y) (A + B) := by
 obtain ⟨a, b⟩ := h
 obtain ⟨c, d⟩ := k
 constructor <;> grind
theorem bd.nn {x A : Rat} (h : bd x A) : 0 ≤ A := by
 obtain ⟨a, b⟩ := h
 grind
theorem bd.mul {x y A B : Rat} (h : bd x A) (k : bd y B) : bd (x * y) (A * B) := by
 obtain ⟨a, b⟩ := h
 obtain ⟨c, d⟩ := k
 have p1 := Rat.mul_nonneg (a := A - x) (b := B + y) (by grind) (by grind)
 have p2 := Rat.mul_nonneg (a := A + x) (b := B - y) (by grind) (by grind)
 have p3 := Rat.mul_nonneg (a := A - x) (b := B - y) (by grind) (by grind)
 have p4 := Rat.mul_nonneg (a := A + x) (b := B + y) (by grind) (by grind)
 constructor <;> grind
theorem bd.mono {x A B : Rat} (h : bd x A) (k : A ≤ B) : bd x B := by
 obtain ⟨a, b⟩ := h
 constructor <;> grind
theorem bd.zero {B : Rat} (h : 0 ≤ B) : bd 0 B := by constructor <;> grind
theorem bd.self {x B : Rat} (h : 0 ≤ x) (h2 : x ≤ B) : bd x B := by constructor <;> grind
def NB (B : Rat) (F : List FRow) : Prop := ∀ (c : Rat) (φ : List Int → Rat), 0 ≤ c → (∀ p, bd (φ p) c) → bd (wS φ F) (c * B)
theorem NB.on {B : Rat} {F : List FRow} (h : NB B F) {c : Rat} {φ : List Int → Rat} (c0 : 0 ≤ c) (hp : ∀ x ∈ F, bd (φ x.1) c) : bd (wS φ F) (c * B) := by
 have e : wS φ F = wS (fun p => if p ∈ keysF F then φ p else 0) F := wS_congr fun x hx => by
  have m : x.1 ∈ keysF F := List.mem_map_of_mem hx
  rw [if_pos m]
 rw [e]
 refine h c _ c0 fun p => ?_
 split
 · rename_i m
   obtain ⟨x, hx, rfl⟩ := List.mem_map.mp m
   exact hp x hx
 · exact bd.zero c0
theorem NB.gat {B : Rat} {F : List FRow} (h : NB B F) : NB B (gat F) := fun c φ c0 hp => by rw [wS_gat]; exact h c φ c0 hp
theorem NB.nil : NB 0 [] := fun c φ c0 hp => by
 show bd 0 (c * 0)
 rw [Rat.mul_zero]
 exact bd.zero (by decide)
theorem NB.append {A B : Rat} {F G : List FRow} (h : NB A F) (k : NB B G) : NB (A + B) (F ++ G) := fun c φ c0 hp => by
 rw [wS_append, Rat.mul_add]
 exact (h c φ c0 hp).add (k c φ c0 hp)
theorem NB.nn {B : Rat} {F : List FRow} (h : NB B F) : 0 ≤ B := by
 have := (h 1 (fun _ => 0) (by decide) fun p => bd.zero (by decide)).nn
 grind
theorem NB.mul {A B : Rat} {F G : List FRow} (h : NB A F) (k : NB B G) : NB (A * B) (mulR F G) := fun c φ c0 hp => by
 rw [wS_mul2, show c * (A * B) = (c * B) * A by grind]
 exact h (c * B) _ (Rat.mul_nonneg c0 k.nn) fun p => k c _ c0 fun r => hp _
theorem NB.one {r A : Rat} (k : bd r A) (p : List Int) : NB A [(p, r)] := fun c φ c0 hp => by
 show bd (r * φ p + 0) (c * A)
 rw [Rat.add_zero, Rat.mul_comm c]
 exact k.mul (hp p)
theorem NB.mono {A B : Rat} {F : List FRow} (h : NB A F) (k : A ≤ B) : NB B F := fun c φ c0 hp => (h c φ c0 hp).mono (Rat.mul_le_mul_of_nonneg_left k c0)
theorem bd_sum {f g : Nat → Rat} : ∀ n, (∀ i, i < n → bd (f i) (g i)) → bd (sumF f n) (sumF g n)
 | 0, _ => bd.zero (Rat.le_refl)
 | n + 1, h => (bd_sum n fun i hi => h i (by omega)).add (h n (by omega))
theorem sumF_list : ∀ (q : List Int), sumF (fun k => ((q.getD k 0 : Int) : Rat)) q.length = ((q.sum : Int) : Rat)
 | [] => rfl
 | a :: q => by
  rw [List.length_cons, sumF_first, List.sum_cons, Rat.intCast_add, ← sumF_list q]
  rfl
theorem Dk_bd {S : Nat → List FRow} {n g : Nat} {B c : Rat} (hS : ∀ k, k < n → NB B (S k)) (B0 : 0 ≤ B) {φ : List Int → Rat} (c0 : 0 ≤ c) (hp : ∀ p, bd (φ p) c) {q : List Int} (hq : Pw n g q) : bd (Dk S φ q) (c * (((g : Int) : Rat) * B)) := by
 unfold Dk
 have h := bd_sum (f := fun k => ((q.getD k 0 : Int) : Rat) * wS (fun r => φ (addP (onceP q k (q.getD k 0)) r)) (S k)) (g := fun k => (c * B) * ((q.getD k 0 : Int) : Rat)) q.length fun k hk => by
  rw [Rat.mul_comm (c * B)]
  have q0 : 0 ≤ q.getD k 0 := by
   rw [List.getD_eq_getElem?_getD, List.getElem?_eq_getElem hk]
   exact hq.2.1 _ (List.getElem_mem hk)
  exact (bd.self (Rat.intCast_nonneg.mpr q0) (Rat.le_refl)).mul (hS k (by rw [← hq.1]; exact hk) c _ c0 fun r => hp _)
 refine h.mono ?_
 rw [sumF_mul (c := c * B), sumF_list, show c * (((g : Int) : Rat) * B) = (c * B) * ((g : Int) : Rat) by grind]
 exact Rat.mul_le_mul_of_nonneg_left (Rat.intCast_le_intCast.mpr hq.2.2) (Rat.mul_nonneg c0 B0)
theorem NB.slope {S : Nat → List FRow} {n g : Nat} {A B : Rat} {F : List FRow} (h : NB A F) (hS : ∀ k, k < n → NB B (S k)) (B0 : 0 ≤ B) (hF : keyP (Pw n g) F) : NB (((g : Int) : Rat) * B * A) (slO S F) := by
 refine NB.gat fun c φ c0 hp => ?_
 rw [wS_slRaw φ fun x hx => (hF x hx).2.1]
 have := h.on (c := c * (((g : Int) : Rat) * B)) (φ := Dk S φ) (Rat.mul_nonneg c0 (Rat.mul_nonneg (Rat.intCast_nonneg.mpr (Int.natCast_nonneg g)) B0)) fun x hx => Dk_bd hS B0 c0 hp (hF x hx)
 rwa [show c * (((g : Int) : Rat) * B * A) = c * (((g : Int) : Rat) * B) * A by grind]
end Ow
namespace Ow
open PySem PySem.Spec
namespace HJ6
open HJ
structure Sm6 (k : List Int) : Prop where
 nn : ∀ x ∈ k, 0 ≤ x
 le : k.sum ≤ 11
theorem Sm6.each {k : List Int} (h : Sm6 k) : ∀ x ∈ k, 0 ≤ x ∧ x ≤ 11 := fun x hx => ⟨h.nn x hx, by
 obtain ⟨h1, h2⟩ := h
 induction k with
 | nil => cases hx
 | cons y k ih =>
  rw [List.sum_cons] at h2
  have y0 := h1 y List.mem_cons_self
  have s0 : ∀ l : List Int, (∀ x ∈ l, 0 ≤ x) → 0 ≤ l.sum := fun l => by
   induction l with
   | nil => intro _; exact Int.le_refl 0
   | cons z l ih => intro h; rw [List.sum_cons]; have := h z List.mem_cons_self; have := ih fun x hx => h x (List.mem_cons_of_mem _ hx); omega
  have := s0 k fun x hx => h1 x (List.mem_cons_of_mem _ hx)
  rcases List.mem_cons.mp hx with rfl | hx
  · omega
  · exact ih hx (fun x hx => h1 x (List.mem_cons_of_mem _ hx)) (by omega)⟩
theorem sum_nn : ∀ l : List Int, (∀ x ∈ l, 0 ≤ x) → ((l.map Int.toNat).sum : Int) = l.sum
 | [], _ => rfl
 | z :: l, h => by
  have e := sum_nn l fun x hx => h x (List.mem_cons_of_mem _ hx)
  have := h z List.mem_cons_self
  rw [List.map_cons, List.sum_cons, List.sum_cons, ← e]
  omega
theorem Sm6.fits {p : List Int} {x : Int} (h : Sm6 (p ++ [x])) : Fits p.length 11 (p.map Int.toNat) ∧ 0 ≤ x ∧ x ≤ 11 := by
 have hp : ∀ y ∈ p, 0 ≤ y := fun y hy => h.nn y (List.mem_append_left _ hy)
 have e := sum_nn p hp
 have le := h.le
 rw [List.sum_append] at le
 have ex := h.each x (List.mem_append_right _ List.mem_cons_self)
 have sx : ([x] : List Int).sum = x := by simp
 rw [sx] at le
 refine ⟨⟨List.length_map _, by omega⟩, ex⟩
end HJ6
end Ow
namespace Law
open PySem PySem.Spec PySem.SeqAt PyProof.Rows L2 Ow
noncomputable def d__law_bag : List D → FR := fnD 3 []
 (sSeq (sSet 2 (eBin dAdd (eBin dMul (eC (.int 5081)) (eVar 1)) (eC (.int 3))))
 (sSeq (sIf (tOf (eBin dLt (eVar 1) (eCall1 fLen (aCons (eVar 0) aNil))))
 (sSet 2 (eFlat (eBin dIx (eVar 0) (eVar 1))))
 sSkip)
 (sRet (eLst (aCons (eBin dMul (eCall1 fAbs (aCons (eVar 2) aNil)) (eCall1 fInt (aCons (eBin dGe (eCall1 fAbs (aCons (eVar 2) aNil)) (eBin dPow (eC (.int 10)) (eC (.int 18)))) aNil))) (aCons (eBin dAdd (eBin dMod (eVar 2) (eC (.int 2147483587))) (eBin dMul (eC (.int 40009)) (eVar 1))) (aCons (eC (.int 0)) aNil)))))))
noncomputable def d__law_count : List D → FR := fnD 4 []
 (sSeq (sSet 2 (eC (.int 1)))
 (sSeq (sFor (.nm 3) (gRange (aCons (eC (.int 1)) (aCons (eBin dAdd (eVar 1) (eC (.int 1))) aNil)))
 (sSet 2 (eBin dDiv (eBin dMul (eVar 2) (eBin dAdd (eVar 0) (eVar 3))) (eVar 3))))
 (sRet (eFlat (eVar 2)))))
noncomputable def d__law_products : List D → FR := fnD 7 []
 (sSeq (sSet 2 (eLst (aCons (eTup aNil) aNil)))
 (sSeq (sFor (.nm 3) (gRange (aCons (eFlat (eVar 0)) aNil))
 (sSeq (sSet 4 (eLst aNil))
 (sSeq (sFor (.nm 5) (gList (eVar 2))
 (sDrop (eMut "list" 4 mExtend (aCons (eLc (.nm 6) [] (gRange (aCons (eBin dSub (eBin dAdd (eVar 1) (eC (.int 1))) (eCall1 fSumT (aCons (eVar 5) aNil))) aNil)) tYesD (eFlat (eBin dCatT (eVar 5) (eTup (aCons (eFlat (eVar 6)) aNil))))) aNil))))
 (sSet 2 (eVar 4)))))
 (sRet (eCall1 fSortSum (aCons (eVar 2) aNil)))))
noncomputable def d_how_many_products : List D → FR := fnD 4 []
 (sSeq (sSet 2 (eC (.int 1)))
 (sSeq (sFor (.nm 3) (gRange (aCons (eC (.int 1)) (aCons (eBin dAdd (eVar 1) (eC (.int 1))) aNil)))
 (sSet 2 (eBin dDiv (eBin dMul (eVar 2) (eBin dAdd (eVar 0) (eVar 3))) (eVar 3))))
 (sRet (eFlat (eVar 2)))))
noncomputable def d_look_room : List D → FR := fnD 2 []
 (sIf (tOf (eBin dGt (eCall d_how_many_products [] (aCons (eVar 0) (aCons (eVar 1) aNil))) (eC (.int 20))))
 (sRaise "NoRoom")
 sSkip)
noncomputable def dN_powers_of_sum : Nat → List D → FR
 | 0 => fnD 5 [] fun _ => .stuck
 | k + 1 => fnD 5 []
  (sSeq (sIf (tOf (eBin dEq (eVar 0) (eC (.int 0))))
  (sRet (eIf (tOf (eBin dEq (eVar 1) (eC (.int 0)))) (eLst (aCons (eTup aNil) aNil)) (eLst aNil)))
  sSkip)
  (sSeq (sSet 2 (eLst aNil))
  (sSeq (sFor (.nm 3) (gRange (aCons (eBin dAdd (eVar 1) (eC (.int 1))) aNil))
  (sDrop (eMut "list" 2 mExtend (aCons (eLc (.nm 4) [] (gList (eCall (dN_powers_of_sum k) [] (aCons (eBin dSub (eVar 0) (eC (.int 1))) (aCons (eBin dSub (eVar 1) (eVar 3)) aNil)))) tYesD (eFlat (eBin dCatT (eTup (aCons (eFlat (eVar 3)) aNil)) (eVar 4)))) aNil))))
  (sRetV 2))))
noncomputable def d_powers_of_sum : List D → FR := dN_powers_of_sum 22
noncomputable def d_products_of : List D → FR := fnD 4 []
 (sSeq (sDrop (eCall d_look_room [] (aCons (eVar 0) (aCons (eVar 1) aNil))))
 (sSeq (sSet 2 (eLst aNil))
 (sSeq (sFor (.nm 3) (gRange (aCons (eBin dAdd (eVar 1) (eC (.int 1))) aNil))
 (sDrop (eMut "list" 2 mExtend (aCons (eCall d_powers_of_sum [] (aCons (eVar 0) (aCons (eVar 3) aNil))) aNil))))
 (sRetV 2))))
noncomputable def d__law_said : List D → FR := fnD 3 []
 (sTry (sRet (eCall d_products_of [] (aCons (eVar 0) (aCons (eVar 1) aNil)))) (hitX "RollError") 2
 (sRet (eTup (aCons (eIsX (hitX "NoRoom") (eVar 2)) (aCons (eIsX hitVE (eVar 2)) (aCons (eIsX (hitX "TooMany") (eVar 2)) (aCons (eIsX (hitX "NotEven") (eVar 2)) aNil)))))))
noncomputable def dN__law_same : Nat → List D → FR
 | 0 => fnD 4 [] fun _ => .stuck
 | k + 1 => fnD 4 []
  (sSeq (sIf (tOrD (tOf (eBin dNe (eUn (fIs .list) (eVar 0)) (eUn (fIs .list) (eVar 1)))) (tOf (eBin dNe (eUn (fIs .tuple) (eVar 0)) (eUn (fIs .tuple) (eVar 1)))))
  (sRet (eC (.bl false)))
  sSkip)
  (sSeq (sIf (tOrD (tTru (eUn (fIs .list) (eVar 0))) (tTru (eUn (fIs .tuple) (eVar 0))))
  (sRet (eAnd (eBin dEq (eCall1 fLen (aCons (eVar 0) aNil)) (eCall1 fLen (aCons (eVar 1) aNil))) (eCall1 fAll (aCons (eLc (.tp [2, 3]) [] (gFun fZip (aCons (eVar 0) (aCons (eVar 1) aNil))) tYesD (eCall (dN__law_same k) [] (aCons (eVar 2) (aCons (eVar 3) aNil)))) aNil))))
  sSkip)
  (sRet (eAnd (eBin dEq (eUn (fIs .bool) (eVar 0)) (eUn (fIs .bool) (eVar 1))) (eBin dEq (eVar 0) (eVar 1))))))
noncomputable def d__law_same : List D → FR := dN__law_same 22
noncomputable def d__law_take : List D → FR := fnD 7 [0]
 (sSeq (sIf (tOf (eBin dGt (eBin dIx (eVar 0) (eC (.int 0))) (eC (.int 0))))
 (sSeq (sSet 2 (eBin dMod (eBin dIx (eVar 0) (eC (.int 0))) (eVar 1)))
 (sSeq (sSetIx 0 (eBin dDiv (eBin dIx (eVar 0) (eC (.int 0))) (eVar 1)) (eC (.int 0)))
 (sRet (eFlat (eVar 2)))))
 sSkip)
 (sSeq (sSet 3 (eTup (aCons (eC (.int 2147483647)) (aCons (eC (.int 2147483629)) (aCons (eC (.int 2147483587)) (aCons (eC (.int 2147483579)) (aCons (eC (.int 2147483563)) (aCons (eC (.int 2147483549)) (aCons (eC (.int 2147483543)) (aCons (eC (.int 2147483497)) aNil))))))))))
 (sSeq (sSetIx 0 (eBin dAdd (eBin dIx (eVar 0) (eC (.int 2))) (eC (.int 1))) (eC (.int 2)))
 (sSeq (sSet 4 (eFlat (eBin dIx (eVar 0) (eC (.int 2)))))
 (sSeq (sSet 5 (eBin dAdd (eBin dMul (eBin dAdd (eBin dIx (eVar 0) (eC (.int 1))) (eC (.int 1))) (eBin dAdd (eBin dMul (eC (.int 2)) (eVar 4)) (eC (.int 3)))) (eBin dMul (eBin dMul (eC (.int 6007)) (eVar 4)) (eVar 4))))
 (sSeq (sSet 6 (eBin dMod (eBin dPow (eVar 5) (eC (.int 3))) (eBin dIx (eVar 3) (eBin dMod (eVar 4) (eC (.int 8))))))
 (sRet (eBin dMod (eBin dDiv (eBin dMod (eBin dMul (eVar 6) (eBin dAdd (eBin dDiv (eVar 6) (eC (.int 8192))) (eC (.int 11)))) (eBin dIx (eVar 3) (eBin dMod (eBin dAdd (eVar 4) (eC (.int 3))) (eC (.int 8))))) (eC (.int 32))) (eVar 1)))))))))
noncomputable def d_law : List D → FR := fnD 9 []
 (sSeq (sFor (.nm 1) (gRange (aCons (eCall1 fMax2 (aCons (eC (.int 1)) (aCons (eCall1 fMin2 (aCons (eC (.int 4)) (aCons (eCall1 fLen (aCons (eVar 0) aNil)) aNil))) aNil))) aNil))
 (sSeq (sSet 2 (eCall d__law_bag [] (aCons (eVar 0) (aCons (eVar 1) aNil))))
 (sFor (.nm 3) (gRange (aCons (eC (.int 4)) aNil))
 (sSeq (sPar 4 5 (aCons (eBin dAdd (eC (.int 1)) (eCall d__law_take [2] (aSlot 2 (aCons (eC (.int 19)) aNil)))) (aCons (eBin dAdd (eC (.int 1)) (eCall d__law_take [2] (aSlot 2 (aCons (eC (.int 3)) aNil)))) aNil)))
 (sSeq (sIf (tOf (eBin dEq (eCall d__law_take [2] (aSlot 2 (aCons (eC (.int 2)) aNil))) (eC (.int 0))))
 (sSeq (sUnp (.tp [5, 6]) (eBin dIx (eLst (aCons (eTup (aCons (eC (.int 1)) (aCons (eC (.int 19)) aNil))) (aCons (eTup (aCons (eC (.int 2)) (aCons (eC (.int 4)) aNil))) (aCons (eTup (aCons (eC (.int 3)) (aCons (eC (.int 3)) aNil))) aNil)))) (eCall d__law_take [2] (aSlot 2 (aCons (eC (.int 3)) aNil)))))
 (sSet 4 (eBin dAdd (eC (.int 1)) (eCall d__law_take [2] (aSlot 2 (aCons (eVar 6) aNil))))))
 sSkip)
 (sSeq (sSet 7 (eTup (aCons (eC (.bl true)) (aCons (eC (.bl true)) (aCons (eC (.bl false)) (aCons (eC (.bl false)) aNil))))))
 (sSeq (sIf (tOf (eBin dLe (eCall d__law_count [] (aCons (eVar 4) (aCons (eVar 5) aNil))) (eC (.int 20))))
 (sSet 7 (eCall d__law_products [] (aCons (eVar 4) (aCons (eVar 5) aNil))))
 sSkip)
 (sSeq (sSet 8 (eCall d__law_said [] (aCons (eVar 4) (aCons (eVar 5) aNil))))
 (sSeq (sIf (tNotD (tTru (eCall d__law_same [] (aCons (eVar 8) (aCons (eVar 7) aNil)))))
 (sRet (eC (.bl false)))
 sSkip)
 (sSeq (sIf (tTru (eUn (fIs .list) (eVar 8)))
 (sDrop (eMut "list" 8 mAppend (aCons (eC .non) aNil)))
 sSkip)
 (sIf (tNotD (tTru (eCall d__law_same [] (aCons (eCall d__law_said [] (aCons (eVar 4) (aCons (eVar 5) aNil))) (aCons (eVar 7) aNil)))))
 (sRet (eC (.bl false)))
 sSkip)))))))))))
 (sRet (eC (.bl true))))
end Law
namespace Law
open PySem PySem.Spec PySem.SeqAt PyProof.Rows L2 Ow
local macro_rules
 | `(tactic| simp only [EV0, $xs,*] $[$loc]?) => `(tactic| simp only [a_fnD, a_seq, a_skip, a_retV, a_retN, a_brk, a_cnt, a_raise, a_var, a_c, a_nil, o_some, soO_some, bnd_nxt, bnd_ret, bnd_exc, $xs,*] $[$loc]?)
 | `(tactic| simp only [EV0] $[$loc]?) => `(tactic| simp only [a_fnD, a_seq, a_skip, a_retV, a_retN, a_brk, a_cnt, a_raise, a_var, a_c, a_nil, o_some, soO_some, bnd_nxt, bnd_ret, bnd_exc] $[$loc]?)
local macro_rules
 | `(tactic| simp only [EV1, $xs,*] $[$loc]?) => `(tactic| simp only [EV0, bnd_brk, bnd_cnt, er_ret, er_exc, fin_nxt, fin_ret, fin_exc, ifK_x, ifK_t, ifK_f, retK1_x, retK1_o, setK_x, setK_o, dropK1_x, dropK1_o, $xs,*] $[$loc]?)
 | `(tactic| simp only [EV1] $[$loc]?) => `(tactic| simp only [EV0, bnd_brk, bnd_cnt, er_ret, er_exc, fin_nxt, fin_ret, fin_exc, ifK_x, ifK_t, ifK_f, retK1_x, retK1_o, setK_x, setK_o, dropK1_x, dropK1_o] $[$loc]?)
local macro_rules
 | `(tactic| simp only [EV2, $xs,*] $[$loc]?) => `(tactic| simp only [EV1, parK1_x, parK1_o, setix3_x, setix4_s, setix3_o, unpK_x, unpK_o, forK_x, forK_o, bin3_x, bin3_o, un2_x, un2_o, cons3_x, cons3_o, slot2_x, $xs,*] $[$loc]?)
 | `(tactic| simp only [EV2] $[$loc]?) => `(tactic| simp only [EV1, parK1_x, parK1_o, setix3_x, setix4_s, setix3_o, unpK_x, unpK_o, forK_x, forK_o, bin3_x, bin3_o, un2_x, un2_o, cons3_x, cons3_o, slot2_x] $[$loc]?)
local macro_rules
 | `(tactic| simp only [EV3, $xs,*] $[$loc]?) => `(tactic| simp only [EV2, slot2_o, tup2_x, tup2_o, lst2_x, lst2_o, c12_x, c12_o, call2_x, call2_o, flat2_x, flat2_i, flat2_b, flat2_s, flat2_n, flatL2_x, tof2_x, $xs,*] $[$loc]?)
 | `(tactic| simp only [EV3] $[$loc]?) => `(tactic| simp only [EV2, slot2_o, tup2_x, tup2_o, lst2_x, lst2_o, c12_x, c12_o, call2_x, call2_o, flat2_x, flat2_i, flat2_b, flat2_s, flat2_n, flatL2_x, tof2_x] $[$loc]?)
local macro_rules
 | `(tactic| simp only [EV4, $xs,*] $[$loc]?) => `(tactic| simp only [EV3, tof2_o, tru2_x, tru2_o, tnot2_x, tnot2_o, tand2_x, tand2_t, tand2_f, tor2_x, tor2_t, tor2_f, and2_x, and2_t, and2_f, or2_x, or2_t, $xs,*] $[$loc]?)
 | `(tactic| simp only [EV4] $[$loc]?) => `(tactic| simp only [EV3, tof2_o, tru2_x, tru2_o, tnot2_x, tnot2_o, tand2_x, tand2_t, tand2_f, tor2_x, tor2_t, tor2_f, and2_x, and2_t, and2_f, or2_x, or2_t] $[$loc]?)
local macro_rules
 | `(tactic| simp only [EV5, $xs,*] $[$loc]?) => `(tactic| simp only [EV4, or2_f, eif2_x, eif2_t, eif2_f, isx2_x, meth3_x, meth3_o, mut2_x, mut3_s, mut2_o, list2_x, list2_l, list2_f, gtup2_x, gtup2_o, rng2_x, $xs,*] $[$loc]?)
 | `(tactic| simp only [EV5] $[$loc]?) => `(tactic| simp only [EV4, or2_f, eif2_x, eif2_t, eif2_f, isx2_x, meth3_x, meth3_o, mut2_x, mut3_s, mut2_o, list2_x, list2_l, list2_f, gtup2_x, gtup2_o, rng2_x] $[$loc]?)
local macro_rules
 | `(tactic| simp only [EV6, $xs,*] $[$loc]?) => `(tactic| simp only [EV5, rng2_o, bin2_x, bin2_o, cons2_x, cons2_o, setix2_x, setix2_o, meth2_x, meth2_l, a_if, a_ret, a_set, a_drop, a_setix, a_unp, a_for, $xs,*] $[$loc]?)
 | `(tactic| simp only [EV6] $[$loc]?) => `(tactic| simp only [EV5, rng2_o, bin2_x, bin2_o, cons2_x, cons2_o, setix2_x, setix2_o, meth2_x, meth2_l, a_if, a_ret, a_set, a_drop, a_setix, a_unp, a_for] $[$loc]?)
local macro_rules
 | `(tactic| simp only [EV7, $xs,*] $[$loc]?) => `(tactic| simp only [EV6, a_bin, a_un, a_cons, a_slot, a_tup, a_lst, a_flat, a_flatL, a_call1, a_call, a_tof, a_tru, a_tnot, a_tand, a_tor, a_and, $xs,*] $[$loc]?)
 | `(tactic| simp only [EV7] $[$loc]?) => `(tactic| simp only [EV6, a_bin, a_un, a_cons, a_slot, a_tup, a_lst, a_flat, a_flatL, a_call1, a_call, a_tof, a_tru, a_tnot, a_tand, a_tor, a_and] $[$loc]?)
local macro_rules
 | `(tactic| simp only [EV8, $xs,*] $[$loc]?) => `(tactic| simp only [EV7, a_or, a_eif, a_isx, a_meth, a_grange, a_glist, a_gtup, a_par, mut1_t, a_mut, isTy_ll, a_try, hdl_nxt, hdl_ret, noExc_ret, noExc_nxt, $xs,*] $[$loc]?)
 | `(tactic| simp only [EV8] $[$loc]?) => `(tactic| simp only [EV7, a_or, a_eif, a_isx, a_meth, a_grange, a_glist, a_gtup, a_par, mut1_t, a_mut, isTy_ll, a_try, hdl_nxt, hdl_ret, noExc_ret, noExc_nxt] $[$loc]?)
local macro_rules
 | `(tactic| simp only [EV9, $xs,*] $[$loc]?) => `(tactic| simp only [EV8, putOuts, add_ii, sub_ii, lt_ii, le_ii, gt_ii, ge_ii, eq_ii, ne_ii, abs_i, int_i, int_b, len_t, len_l, len_f, max_ii, $xs,*] $[$loc]?)
 | `(tactic| simp only [EV9] $[$loc]?) => `(tactic| simp only [EV8, putOuts, add_ii, sub_ii, lt_ii, le_ii, gt_ii, ge_ii, eq_ii, ne_ii, abs_i, int_i, int_b, len_t, len_l, len_f, max_ii] $[$loc]?)
local macro_rules
 | `(tactic| simp only [EV10, $xs,*] $[$loc]?) => `(tactic| simp only [EV9, min_ii, not_b, neg_i, ix_t0, ix_t1, ix_l0, D.truth, List.getD_cons_zero, List.getD_cons_succ, List.set_cons_zero, List.set_cons_succ, List.cons_append, List.nil_append, List.append_nil, List.length_cons, List.length_nil, $xs,*] $[$loc]?)
 | `(tactic| simp only [EV10] $[$loc]?) => `(tactic| simp only [EV9, min_ii, not_b, neg_i, ix_t0, ix_t1, ix_l0, D.truth, List.getD_cons_zero, List.getD_cons_succ, List.set_cons_zero, List.set_cons_succ, List.cons_append, List.nil_append, List.append_nil, List.length_cons, List.length_nil] $[$loc]?)
local macro_rules
 | `(tactic| simp only [EV11, $xs,*] $[$loc]?) => `(tactic| simp only [EV10, List.replicate_succ, List.replicate_zero, List.map_cons, List.map_nil, Option.map_some, Nat.reduceAdd, Nat.reduceSub, if_true, if_false, Bool.false_eq_true, Bool.not_true, Bool.not_false, decide_true, decide_false, not_true_eq_false, not_false_eq_true, $xs,*] $[$loc]?)
 | `(tactic| simp only [EV11] $[$loc]?) => `(tactic| simp only [EV10, List.replicate_succ, List.replicate_zero, List.map_cons, List.map_nil, Option.map_some, Nat.reduceAdd, Nat.reduceSub, if_true, if_false, Bool.false_eq_true, Bool.not_true, Bool.not_false, decide_true, decide_false, not_true_eq_false, not_false_eq_true] $[$loc]?)
local macro_rules
 | `(tactic| simp only [EV12, $xs,*] $[$loc]?) => `(tactic| simp only [EV11, eq_self, ne_eq, a_tyes, a_lc, lcF_0, a_gfun, gf2_o, zip_ll, zip_tt, enum_l, rev_l, all_true, listOf_l, listOf_t, tupOf_l, tupOf_t, $xs,*] $[$loc]?)
 | `(tactic| simp only [EV12] $[$loc]?) => `(tactic| simp only [EV11, eq_self, ne_eq, a_tyes, a_lc, lcF_0, a_gfun, gf2_o, zip_ll, zip_tt, enum_l, rev_l, all_true, listOf_l, listOf_t, tupOf_l, tupOf_t] $[$loc]?)
local macro_rules
 | `(tactic| simp only [EV, $xs,*] $[$loc]?) => `(tactic| simp only [EV12, clear_l, bl_eq, bl_ne, a_sl, sl2_o, sl3_o, sl4_o, a_onone, a_osome, os2_o, slL_l, slT_t, $xs,*] $[$loc]?)
 | `(tactic| simp only [EV] $[$loc]?) => `(tactic| simp only [EV12, clear_l, bl_eq, bl_ne, a_sl, sl2_o, sl3_o, sl4_o, a_onone, a_osome, os2_o, slL_l, slT_t] $[$loc]?)
local macro_rules
 | `(tactic| simp only [EW, $xs,*] $[$loc]?) => `(tactic| simp only [EV, a_dnew, a_setd, setd2_o, setd3_o, setd4_s, a_unpl, unpl2_l, setMany_c, setMany_n, a_chain, chn2_o, chn3_o, chn4_t, chn4_f, $xs,*] $[$loc]?)
 | `(tactic| simp only [EW] $[$loc]?) => `(tactic| simp only [EV, a_dnew, a_setd, setd2_o, setd3_o, setd4_s, a_unpl, unpl2_l, setMany_c, setMany_n, a_chain, chn2_o, chn3_o, chn4_t, chn4_f] $[$loc]?)
local macro_rules
 | `(tactic| simp only [EX, $xs,*] $[$loc]?) => `(tactic| simp only [EW, a_dnewT, a_getT, gt2_d, gt3_o, gt4_o, a_ixT, it2_d, it3_o, a_setT, st2_o, st3_o, a_keysT, ky2_d, $xs,*] $[$loc]?)
 | `(tactic| simp only [EX] $[$loc]?) => `(tactic| simp only [EW, a_dnewT, a_getT, gt2_d, gt3_o, gt4_o, a_ixT, it2_d, it3_o, a_setT, st2_o, st3_o, a_keysT, ky2_d] $[$loc]?)
theorem sameN : ∀ (n : Nat) (d : D), plain n d → n ≤ 60 → dN__law_same (n + 1) [d, d] = .ret (.bl true) [] := by
 have scal : ∀ (n : Nat) (d : D) (b1 b2 : Bool), fIs .list d = some (.bl false) → fIs .tuple d = some (.bl false) → fIs .bool d = some (.bl b1) → dEq d d = some (.bl true) → dN__law_same (n + 1) [d, d] = .ret (.bl true) [] := by
  intro n d b1 b2 h1 h2 h3 h4
  unfold dN__law_same
  simp only [EV, h1, h2, h3, h4, bne_self_eq_false, beq_self_eq_true]
 intro n
 induction n with
 | zero =>
  intro d h _
  cases d with
  | non => exact scal 0 _ false false rfl rfl rfl rfl
  | bl b => exact scal 0 _ true true rfl rfl rfl (by rw [bl_eq, beq_self_eq_true])
  | int i => exact scal 0 _ false false rfl rfl rfl (by rw [eq_ii, decide_eq_true rfl])
  | str x => exact scal 0 _ false false rfl rfl rfl (dEq_self (n := 0) (d := .str x) h (by omega))
  | _ => exact False.elim h
 | succ n ih =>
  intro d h hn
  have seq : ∀ (ds : List D) (t l : Bool) (d : D), d = .tup ds ∨ d = .lst ds → fIs .list d = some (.bl l) → fIs .tuple d = some (.bl t) → (l || t) = true → fLen [d] = some (.int ds.length) → fZip [d, d] = some (zipD ds ds) → ds.length ≤ 10000 → (∀ x ∈ ds, plain n x) → dN__law_same (n + 1 + 1) [d, d] = .ret (.bl true) [] := by
   intro ds t l d _ h1 h2 ht h3 h4 h5 h6
   obtain ⟨σ', e, hσ⟩ := lcL_map (T := .tp [2, 3]) (ge := eCall (dN__law_same (n + 1)) [] (aCons (eVar 2) (aCons (eVar 3) aNil))) (fun _ => .bl true) (fun σ => ∃ x y, σ = [d, d, x, y]) (zipD ds ds) [d, d, .non, .non] ⟨_, _, rfl⟩ (by
    rintro z hz σ ⟨x, y, rfl⟩
    rw [zip_self] at hz
    obtain ⟨w, hw, rfl⟩ := List.mem_map.mp hz
    refine ⟨[d, d, w, w], _, rfl, ?_, w, w, rfl⟩
    simp only [EV, ih w (h6 w hw) (by omega)])
   obtain ⟨x, y, rfl⟩ := hσ
   have hl : (zipD ds ds).length ≤ sizeLine := lc_small (by rw [zip_self, List.length_map]; exact h5)
   have ha := all_true (zipD ds ds)
   unfold dN__law_same
   cases l <;> cases t
   · cases ht
   · simp only [EV, h1, h2, h3, h4, bne_self_eq_false, lc2_0 hl, e, ha]
   · simp only [EV, h1, h2, h3, h4, bne_self_eq_false, lc2_0 hl, e, ha]
   · simp only [EV, h1, h2, h3, h4, bne_self_eq_false, lc2_0 hl, e, ha]
  cases d with
  | non => exact scal _ _ false false rfl rfl rfl rfl
  | bl b => exact scal _ _ true true rfl rfl rfl (by rw [bl_eq, beq_self_eq_true])
  | int i => exact scal _ _ false false rfl rfl rfl (by rw [eq_ii, decide_eq_true rfl])
  | str x => exact scal _ _ false false rfl rfl rfl (dEq_self (n := 0) (d := .str x) h (by omega))
  | tup ds => exact seq ds true false _ (.inl rfl) rfl rfl rfl rfl rfl h.1 h.2
  | lst ds => exact seq ds false true _ (.inr rfl) rfl rfl rfl rfl rfl h.1 h.2
  | _ => exact False.elim h
theorem same_refl {d : D} (h : plain 21 d) : d__law_same [d, d] = .ret (.bl true) [] := sameN 21 d h (by omega)
theorem take_eq {k n : Int} {b : D} (h : Bag k b) (hk : k < 2 ^ 20) (hn : 0 < n) (hn2 : n < 2 ^ 64) : ∃ r b', d__law_take [b, .int n] = .ret (.int r) [b'] ∧ 0 ≤ r ∧ r < n ∧ Bag (k + 1) b' := by
 obtain ⟨B, S, T, rfl, h1, h2, h3, h4, h5⟩ := h
 have fn : ∀ z : Int, dMod (.int z) (.int n) = some (.int (z % n)) := fun z => mod_ii hn
 by_cases hB : 0 < B
 · refine ⟨B % n, _, ?_, (emod_lt' B hn).1, (emod_lt' B hn).2, B / n, S, T, rfl, Int.ediv_nonneg (by omega) (by omega), h2, h3, h4, by omega⟩
   have dn : dDiv (.int B) (.int n) = some (.int (B / n)) := div_ii hn (lt64_9000 (by omega))
   unfold d__law_take
   simp only [EV, ix3_0, hB, fn, dn, six3_0]
 · obtain ⟨U, hU⟩ : ∃ U, T + 1 = U := ⟨_, rfl⟩
   have hU1 : 0 ≤ U ∧ U ≤ 2 ^ 20 := by omega
   obtain ⟨p, hp, hp1, hp2⟩ := prime_at (U % 8) (emod_lt' U (by omega)).1 (emod_lt' U (by omega)).2
   obtain ⟨q, hq, hq1, hq2⟩ := prime_at ((U + 3) % 8) (emod_lt' _ (by omega)).1 (emod_lt' _ (by omega)).2
   have b1 : 0 ≤ (S + 1) * (2 * U + 3) := Int.mul_nonneg (by omega) (by omega)
   have b2 : (S + 1) * (2 * U + 3) ≤ 2 ^ 32 * (2 * 2 ^ 20 + 3) := Int.mul_le_mul (by omega) (by omega) (by omega) (by omega)
   have b3 : 0 ≤ 6007 * U * U := Int.mul_nonneg (by omega) (by omega)
   have b4 : 6007 * U * U ≤ 6007 * 2 ^ 20 * 2 ^ 20 := Int.mul_le_mul (by omega) (by omega) (by omega) (by omega)
   have m1 := mul_ii (mulOk_l (i := S + 1) (j := 2 * U + 3) (by omega) (by omega))
   have m2 := mul_ii (mulOk_l (i := 2) (j := U) (by omega) (by omega))
   have m3 := mul_ii (mulOk_l (i := 6007) (j := U) (by omega) (by omega))
   have m4 := mul_ii (mulOk_r (i := 6007 * U) (j := U) (by omega) (by omega))
   obtain ⟨base, hb⟩ : ∃ z, (S + 1) * (2 * U + 3) + 6007 * U * U = z := ⟨_, rfl⟩
   have m5 := pow_3 (i := base) (by omega)
   obtain ⟨here, hh⟩ : ∃ z, base ^ 3 % p = z := ⟨_, rfl⟩
   have hh1 := emod_lt' (base ^ 3) hp1
   rw [hh] at hh1
   have m6 := mul_ii (mulOk_l (i := here) (j := here / 8192 + 11) (by omega) (by omega))
   have fp : ∀ z : Int, dMod (.int z) (.int p) = some (.int (z % p)) := fun z => mod_ii hp1
   have fq : ∀ z : Int, dMod (.int z) (.int q) = some (.int (z % q)) := fun z => mod_ii hq1
   have f8 : ∀ z : Int, dMod (.int z) (.int 8) = some (.int (z % 8)) := fun z => mod_ii (by omega)
   have d1 : ∀ z : Int, dDiv (.int z) (.int 8192) = some (.int (z / 8192)) := fun z => div_ii (by omega) (lt64_9000 (by omega))
   have d2 : ∀ z : Int, dDiv (.int z) (.int 32) = some (.int (z / 32)) := fun z => div_ii (by omega) (lt64_9000 (by omega))
   refine ⟨here * (here / 8192 + 11) % q / 32 % n, _, ?_, (emod_lt' _ hn).1, (emod_lt' _ hn).2, B, S, U, rfl, h1, h2, h3, by omega, by omega⟩
   unfold d__law_take
   simp only [EV, ix3_0, ix3_1, ix3_2, hB, hU, six3_2, m1, m2, m3, m4, hb, m5, f8, hp, hq, fp, fq, fn, hh, d1, d2, m6]
theorem bag_eq (ns : List Int) (at_ : Nat) (hat : at_ ≤ 100) : ∃ b, d__law_bag [.fzl (ns.map D.int), .int at_] = .ret b [] ∧ Bag 0 b := by
 have m1 := mul_ii (mulOk_l (i := 5081) (j := at_) (by omega) (by omega))
 have m2 := mul_ii (mulOk_l (i := 40009) (j := at_) (by omega) (by omega))
 have m3 : ∀ (i : Int) (b : Bool), dMul (.int i) (.int (if b = true then 1 else 0)) = some (.int (i * (if b = true then 1 else 0))) := fun i b => mul_ii (mulOk_r (by split <;> omega) (by split <;> omega))
 have m4 : ∀ i : Int, dMod (.int i) (.int 2147483587) = some (.int (i % 2147483587)) := fun i => mod_ii (by omega)
 by_cases hl : (at_ : Int) < ((ns.map D.int).length : Nat)
 · have hl' : at_ < ns.length := by rw [List.length_map] at hl; omega
   have hx : dIx (.fzl (ns.map D.int)) (.int (at_ : Int)) = some (.int ns[at_]) := ix_fN (by rw [List.getElem?_map, List.getElem?_eq_getElem hl']; rfl)
   refine ⟨_, ?_, bag_fin ns[at_] at_ (decide (1000000000000000000 ≤ (ns[at_].natAbs : Int))) (by omega) (by omega)⟩
   unfold d__law_bag
   simp only [EV, m1, hl, hx, dPow_18, m2, m3, m4]
 · refine ⟨_, ?_, bag_fin (5081 * at_ + 3) at_ (decide (1000000000000000000 ≤ ((5081 * (at_ : Int) + 3).natAbs : Int))) (by omega) (by omega)⟩
   unfold d__law_bag
   simp only [EV, m1, hl, dPow_18, m2, m3, m4]
theorem bagL_eq (ns : List Int) (at_ : Nat) (hat : at_ ≤ 100) : ∃ b, d__law_bag [.lst (ns.map D.int), .int at_] = .ret b [] ∧ Bag 0 b := by
 have m1 := mul_ii (mulOk_l (i := 5081) (j := at_) (by omega) (by omega))
 have m2 := mul_ii (mulOk_l (i := 40009) (j := at_) (by omega) (by omega))
 have m3 : ∀ (i : Int) (b : Bool), dMul (.int i) (.int (if b = true then 1 else 0)) = some (.int (i * (if b = true then 1 else 0))) := fun i b => mul_ii (mulOk_r (by split <;> omega) (by split <;> omega))
 have m4 : ∀ i : Int, dMod (.int i) (.int 2147483587) = some (.int (i % 2147483587)) := fun i => mod_ii (by omega)
 by_cases hl : (at_ : Int) < ((ns.map D.int).length : Nat)
 · have hl' : at_ < ns.length := by rw [List.length_map] at hl; omega
   have hx : dIx (.lst (ns.map D.int)) (.int (at_ : Int)) = some (.int ns[at_]) := ix_lN (by rw [List.getElem?_map, List.getElem?_eq_getElem hl']; rfl)
   refine ⟨_, ?_, bag_fin ns[at_] at_ (decide (1000000000000000000 ≤ (ns[at_].natAbs : Int))) (by omega) (by omega)⟩
   unfold d__law_bag
   simp only [EV, m1, hl, hx, dPow_18, m2, m3, m4]
 · refine ⟨_, ?_, bag_fin (5081 * at_ + 3) at_ (decide (1000000000000000000 ≤ ((5081 * (at_ : Int) + 3).natAbs : Int))) (by omega) (by omega)⟩
   unfold d__law_bag
   simp only [EV, m1, hl, dPow_18, m2, m3, m4]
def hmp (n : Nat) : Nat → Nat
 | 0 => 1
 | j + 1 => hmp n j * (n + (j + 1)) / (j + 1)
theorem how_many_eq {n d : Nat} (hd : d ≤ 100) (hn : n ≤ 100) : d_how_many_products [.int n, .int d] = .ret (.int (hmp n d)) [] := by
 have rg : gRng [.int 1, .int ((d : Int) + 1)] = some (rngD 1 d) := by
  have ht : ((d : Int) + 1 - 1).toNat = d := by omega
  rw [rngL2 (by omega) (by omega) (by omega) (by omega), ht]
 obtain ⟨_, e1, x3, rfl⟩ := forL_rngL (T := .nm 3) (G := sSet 2 (eBin dDiv (eBin dMul (eVar 2) (eBin dAdd (eVar 0) (eVar 3))) (eVar 3))) 1 d (fun i σ => ∃ x3, σ = [.int n, .int d, .int (hmp n i), x3]) [.int n, .int d, .int (hmp n 0), .non] ⟨_, rfl⟩ (by
  rintro i σ hi ⟨x3, rfl⟩
  obtain ⟨a, ha⟩ : ∃ a : Nat, a = hmp n i := ⟨_, rfl⟩
  obtain ⟨c, hc⟩ : ∃ c : Nat, c = hmp n (i + 1) := ⟨_, rfl⟩
  have hac : c = a * (n + (i + 1)) / (i + 1) := by rw [hc, ha]; rfl
  obtain ⟨u, hu⟩ : ∃ u : Int, u = 1 + (i : Int) := ⟨_, rfl⟩
  have u1 : u = ((i + 1 : Nat) : Int) := by omega
  have u2 : (n : Int) + u = ((n + (i + 1) : Nat) : Int) := by omega
  have dv : dDiv (.int ((a : Int) * ((n : Int) + u))) (.int u) = some (.int (c : Int)) := by
   rw [div_ii (by omega) (lt64_9000 (by omega)), u2, u1, hac, Int.natCast_ediv, Int.natCast_mul]
  have mz : dMul (.int (a : Int)) (.int ((n : Int) + u)) = some (.int ((a : Int) * ((n : Int) + u))) := mul_ii (mulOk_r (by omega) (by omega))
  rw [← hc, ← ha, ← hu]
  refine ⟨[.int n, .int d, .int (a : Int), .int u], [.int n, .int d, .int (c : Int), .int u], rfl, ?_, _, rfl⟩
  simp only [EX, mz, dv])
 rw [show ((hmp n 0 : Nat) : Int) = 1 from rfl] at e1
 unfold d_how_many_products
 simp only [EX, rg, e1]
theorem look_room_eq {n d : Nat} (hd : d ≤ 100) (hn : n ≤ 100) (h : hmp n d ≤ 20) : d_look_room [.int n, .int d] = .ret .non [] := by
 have hm := how_many_eq hd hn
 have gt : dGt (.int (hmp n d : Int)) (.int 20) = some (.bl false) := by
  have e : dGt (.int (hmp n d : Int)) (.int 20) = _ := gt_ii
  rw [e, decide_eq_false (by omega)]
 unfold d_look_room
 simp only [EX, hm, gt]
theorem lcount_eq {n d : Nat} (hd : d ≤ 100) (hn : n ≤ 100) : d__law_count [.int n, .int d] = .ret (.int (hmp n d)) [] := by
 have rg : gRng [.int 1, .int ((d : Int) + 1)] = some (rngD 1 d) := by
  have ht : ((d : Int) + 1 - 1).toNat = d := by omega
  rw [rngL2 (by omega) (by omega) (by omega) (by omega), ht]
 obtain ⟨_, e1, x3, rfl⟩ := forL_rngL (T := .nm 3) (G := sSet 2 (eBin dDiv (eBin dMul (eVar 2) (eBin dAdd (eVar 0) (eVar 3))) (eVar 3))) 1 d (fun i σ => ∃ x3, σ = [.int n, .int d, .int (hmp n i), x3]) [.int n, .int d, .int (hmp n 0), .non] ⟨_, rfl⟩ (by
  rintro i σ hi ⟨x3, rfl⟩
  obtain ⟨a, ha⟩ : ∃ a : Nat, a = hmp n i := ⟨_, rfl⟩
  obtain ⟨c, hc⟩ : ∃ c : Nat, c = hmp n (i + 1) := ⟨_, rfl⟩
  have hac : c = a * (n + (i + 1)) / (i + 1) := by rw [hc, ha]; rfl
  obtain ⟨u, hu⟩ : ∃ u : Int, u = 1 + (i : Int) := ⟨_, rfl⟩
  have u1 : u = ((i + 1 : Nat) : Int) := by omega
  have u2 : (n : Int) + u = ((n + (i + 1) : Nat) : Int) := by omega
  have dv : dDiv (.int ((a : Int) * ((n : Int) + u))) (.int u) = some (.int (c : Int)) := by
   rw [div_ii (by omega) (lt64_9000 (by omega)), u2, u1, hac, Int.natCast_ediv, Int.natCast_mul]
  have mz : dMul (.int (a : Int)) (.int ((n : Int) + u)) = some (.int ((a : Int) * ((n : Int) + u))) := mul_ii (mulOk_r (by omega) (by omega))
  rw [← hc, ← ha, ← hu]
  refine ⟨[.int n, .int d, .int (a : Int), .int u], [.int n, .int d, .int (c : Int), .int u], rfl, ?_, _, rfl⟩
  simp only [EX, mz, dv])
 rw [show ((hmp n 0 : Nat) : Int) = 1 from rfl] at e1
 unfold d__law_count
 simp only [EX, rg, e1]
def pws : Nat → Nat → List (List Int)
 | 0, t => if t = 0 then [[]] else []
 | n + 1, t => (List.range (t + 1)).flatMap fun a => (pws n (t - a)).map fun r => (a : Int) :: r
def pwsUp (n t i : Nat) : List (List Int) := (List.range i).flatMap fun a => (pws n (t - a)).map fun r => (a : Int) :: r
theorem pwsUp_succ (n t i : Nat) : pwsUp n t (i + 1) = pwsUp n t i ++ (pws n (t - i)).map fun r => (i : Int) :: r := by
 unfold pwsUp
 rw [List.range_succ, List.flatMap_append, List.flatMap_cons, List.flatMap_nil, List.append_nil]
theorem pwsUp_le (n t : Nat) : ∀ {i j : Nat}, i ≤ j → (pwsUp n t i).length ≤ (pwsUp n t j).length := by
 intro i j h
 induction j with
 | zero =>
  have : i = 0 := by omega
  rw [this]
  exact Nat.le_refl _
 | succ j ih =>
  rcases Nat.lt_or_ge j i with q | q
  · have : i = j + 1 := by omega
    rw [this]
    exact Nat.le_refl _
  · rw [pwsUp_succ, List.length_append]
    exact Nat.le_trans (ih q) (Nat.le_add_right _ _)
theorem pws_len : ∀ (n t : Nat), ∀ p ∈ pws n t, p.length = n
 | 0, t, p, h => by
  unfold pws at h
  split at h
  · rw [List.mem_singleton.mp h]; rfl
  · simp at h
 | n + 1, t, p, h => by
  unfold pws at h
  rw [List.mem_flatMap] at h
  obtain ⟨a, _, h⟩ := h
  rw [List.mem_map] at h
  obtain ⟨r, hr, rfl⟩ := h
  rw [List.length_cons, pws_len n _ r hr]
theorem flat_pw (p : List Int) : (pwD p).flat = true := by
 show D.flats (p.map D.int) = true
 induction p with
 | nil => rfl
 | cons a l ih => exact ih
theorem catT_pw {a : Int} {r : List Int} (h : r.length ≤ 9000) : dCatT (.tup [.int a]) (pwD r) = some (pwD (a :: r)) := if_pos (by
 rw [List.length_map, sizeLine_eq]
 show 1 + r.length ≤ _
 omega)
theorem powers_eq : ∀ (k n t : Nat), n < k → n ≤ 100 → t ≤ 100 → (pws n t).length ≤ 9000 → dN_powers_of_sum k [.int n, .int t] = .ret (.lst ((pws n t).map pwD)) []
 | 0, n, t, h, _, _, _ => by omega
 | k + 1, 0, t, _, _, ht, _ => by
  have eq0 : dEq (.int ((0 : Nat) : Int)) (.int 0) = some (.bl true) := by rw [eq_ii]; rfl
  have et : dEq (.int (t : Int)) (.int 0) = _ := eq_ii
  unfold dN_powers_of_sum
  by_cases h : t = 0
  · subst h
    simp only [EX, eq0]
    rfl
  · have et : dEq (.int (t : Int)) (.int 0) = some (.bl false) := by rw [et, decide_eq_false (by omega)]
    simp only [EX, eq0, et]
    unfold pws
    rw [if_neg h]
    rfl
 | k + 1, n + 1, t, hk, hn, ht, hl => by
  have eq0 : dEq (.int ((n + 1 : Nat) : Int)) (.int 0) = some (.bl false) := by rw [eq_ii, decide_eq_false (by omega)]
  have up : pwsUp n t (t + 1) = pws (n + 1) t := rfl
  have sub1 : ((n + 1 : Nat) : Int) - 1 = (n : Int) := by omega
  have ad : (t : Int) + 1 = ((t + 1 : Nat) : Int) := by omega
  have rg := rngN (t + 1) (by omega)
  obtain ⟨_, e1, x3, x4, rfl⟩ := forL_rng (T := .nm 3) (G := sDrop (eMut "list" 2 mExtend (aCons (eLc (.nm 4) [] (gList (eCall (dN_powers_of_sum k) [] (aCons (eBin dSub (eVar 0) (eC (.int 1))) (aCons (eBin dSub (eVar 1) (eVar 3)) aNil)))) tYesD (eFlat (eBin dCatT (eTup (aCons (eFlat (eVar 3)) aNil)) (eVar 4)))) aNil))) (t + 1)
   (fun i σ => ∃ x3 x4, σ = [.int ((n + 1 : Nat) : Int), .int t, .lst ((pwsUp n t i).map pwD), x3, x4]) [.int ((n + 1 : Nat) : Int), .int t, .lst [], .non, .non] ⟨_, _, rfl⟩ (by
   rintro i σ hi ⟨x3, x4, rfl⟩
   have l1 : (pwsUp n t (i + 1)).length ≤ 9000 := Nat.le_trans (pwsUp_le n t (j := t + 1) (by omega)) (by rw [up]; exact hl)
   rw [pwsUp_succ, List.length_append, List.length_map] at l1
   have ih := powers_eq k n (t - i) (by omega) (by omega) (by omega) (by omega)
   have st : (t : Int) - (i : Int) = ((t - i : Nat) : Int) := by omega
   obtain ⟨_, e2, x, rfl⟩ := lcL_mapG (T := .nm 4) (ge := eFlat (eBin dCatT (eTup (aCons (eFlat (eVar 3)) aNil)) (eVar 4))) pwD (fun r => pwD ((i : Int) :: r)) (fun σ => ∃ x, σ = [.int ((n + 1 : Nat) : Int), .int t, .lst ((pwsUp n t i).map pwD), .int i, x]) (pws n (t - i)) [.int ((n + 1 : Nat) : Int), .int t, .lst ((pwsUp n t i).map pwD), .int i, x4] ⟨_, rfl⟩ (by
    rintro r hr σ ⟨x, rfl⟩
    have ct := catT_pw (a := (i : Int)) (r := r) (by rw [pws_len _ _ r hr]; omega)
    have fl : ∀ σ : List D, flat2 (.ok (pwD ((i : Int) :: r)) σ) = .ok (pwD ((i : Int) :: r)) σ := fun σ => flat2_o (flat_pw _)
    refine ⟨[.int ((n + 1 : Nat) : Int), .int t, .lst ((pwsUp n t i).map pwD), .int i, pwD r], [.int ((n + 1 : Nat) : Int), .int t, .lst ((pwsUp n t i).map pwD), .int i, pwD r], rfl, ?_, _, rfl⟩
    simp only [EX, ct, fl])
   have sm : ((pws n (t - i)).map pwD).length ≤ sizeLine := lc_small (by rw [List.length_map]; omega)
   have ex : mExtend (.lst ((pwsUp n t i).map pwD)) [.lst ((pws n (t - i)).map fun r => pwD ((i : Int) :: r))] = some (.lst ((pwsUp n t (i + 1)).map pwD), .non) := by
    have e : (pwsUp n t (i + 1)).map pwD = (pwsUp n t i).map pwD ++ (pws n (t - i)).map fun r => pwD ((i : Int) :: r) := by
     rw [pwsUp_succ, List.map_append, List.map_map]
     rfl
    rw [e]
    exact if_pos (by rw [List.length_map, List.length_map, sizeLine_eq]; omega)
   refine ⟨[.int ((n + 1 : Nat) : Int), .int t, .lst ((pwsUp n t i).map pwD), .int i, x4], [.int ((n + 1 : Nat) : Int), .int t, .lst ((pwsUp n t (i + 1)).map pwD), .int i, x], rfl, ?_, _, _, rfl⟩
   simp only [EX, sub1, st, ih, lc2_0 sm, e2, ex])
  rw [up] at e1
  unfold dN_powers_of_sum
  simp only [EX, eq0, ad, rg, e1]
def prods (n d : Nat) : List (List Int) := (List.range (d + 1)).flatMap fun t => pws n t
theorem prods_eq {n d : Nat} (hn : n ≤ 21) (hd : d ≤ 100) (h : hmp n d ≤ 20) (hl : (prods n d).length ≤ 9000) : d_products_of [.int n, .int d] = .ret (.lst ((prods n d).map pwD)) [] := by
 have lr := look_room_eq hd (by omega) h
 have rg := rngN (d + 1) (by omega)
 have ad : (d : Int) + 1 = ((d + 1 : Nat) : Int) := by omega
 have ss : ∀ i, (List.range (i + 1)).flatMap (fun t => pws n t) = (List.range i).flatMap (fun t => pws n t) ++ pws n i := fun i => by
  rw [List.range_succ, List.flatMap_append, List.flatMap_cons, List.flatMap_nil, List.append_nil]
 have up : ∀ {i j : Nat}, i ≤ j → ((List.range i).flatMap fun t => pws n t).length ≤ ((List.range j).flatMap fun t => pws n t).length := by
  intro i j h
  induction j with
  | zero =>
   have : i = 0 := by omega
   rw [this]
   exact Nat.le_refl _
  | succ j ih =>
   rcases Nat.lt_or_ge j i with q | q
   · have : i = j + 1 := by omega
     rw [this]
     exact Nat.le_refl _
   · rw [ss, List.length_append]
     exact Nat.le_trans (ih q) (Nat.le_add_right _ _)
 obtain ⟨_, e1, x3, rfl⟩ := forL_rng (T := .nm 3) (G := sDrop (eMut "list" 2 mExtend (aCons (eCall d_powers_of_sum [] (aCons (eVar 0) (aCons (eVar 3) aNil))) aNil))) (d + 1) (fun i σ => ∃ x3, σ = [.int n, .int d, .lst (((List.range i).flatMap fun t => pws n t).map pwD), x3]) [.int n, .int d, .lst [], .non] ⟨_, rfl⟩ (by
  rintro i σ hi ⟨x3, rfl⟩
  have l1 : ((List.range (i + 1)).flatMap fun t => pws n t).length ≤ 9000 := Nat.le_trans (up (j := d + 1) (by omega)) hl
  rw [ss, List.length_append] at l1
  have pe : d_powers_of_sum [.int n, .int i] = _ := powers_eq 22 n i (by omega) (by omega) (by omega) (by omega)
  have ex : mExtend (.lst (((List.range i).flatMap fun t => pws n t).map pwD)) [.lst ((pws n i).map pwD)] = some (.lst (((List.range (i + 1)).flatMap fun t => pws n t).map pwD), .non) := by
   rw [ss, List.map_append]
   exact if_pos (by rw [List.length_map, List.length_map, sizeLine_eq]; omega)
  refine ⟨[.int n, .int d, .lst (((List.range i).flatMap fun t => pws n t).map pwD), .int i], [.int n, .int d, .lst (((List.range (i + 1)).flatMap fun t => pws n t).map pwD), .int i], rfl, ?_, _, rfl⟩
  simp only [EX, pe, ex])
 unfold d_products_of
 simp only [EX, lr, ad, rg, e1]
 rfl
def lpw (g : Nat) : Nat → List (List Int)
 | 0 => [[]]
 | n + 1 => (lpw g n).flatMap fun p => (List.range (g + 1 - p.sum.toNat)).map fun (a : Nat) => p ++ [(a : Int)]
theorem lpw_ok (g : Nat) : ∀ n, ∀ p ∈ lpw g n, p.length = n ∧ 0 ≤ p.sum ∧ p.sum ≤ (g : Int)
 | 0, p, h => by
  rw [List.mem_singleton.mp h]
  exact ⟨rfl, by show (0 : Int) ≤ 0; omega, by show (0 : Int) ≤ g; omega⟩
 | n + 1, p, h => by
  unfold lpw at h
  rw [List.mem_flatMap] at h
  obtain ⟨q, hq, h⟩ := h
  obtain ⟨a, ha, rfl⟩ := List.mem_map.mp h
  obtain ⟨h1, h2, h3⟩ := lpw_ok g n q hq
  have ha := List.mem_range.mp ha
  have e : (q ++ [(a : Int)]).sum = q.sum + a := by rw [List.sum_append]; simp
  rw [e]
  exact ⟨by rw [List.length_append, h1]; rfl, by omega, by omega⟩
def ltZ : List Int → List Int → Bool
 | [], [] => false
 | [], _ :: _ => true
 | _ :: _, [] => false
 | x :: r, y :: t => decide (x < y) || (!decide (y < x) && ltZ r t)
theorem ltZ_eq : ∀ a b : List Int, PyProof.Rows.lexLt PyProof.Rows.itemOrd (a.map Sum.inl) (b.map Sum.inl) = ltZ a b
 | [], [] => rfl
 | [], _ :: _ => rfl
 | _ :: _, [] => rfl
 | x :: r, y :: t => by
  rw [List.map_cons, List.map_cons, PyProof.Rows.lex_cons, ltZ_eq r t]
  rfl
def toksZ : List Int → List Int
 | [] => [0]
 | x :: r => 1 :: x :: toksZ r
theorem toks_ints : ∀ a : List Int, PySem.W.keyToksAll (a.map PyData.int) = (toksZ a).map Sum.inl
 | [] => by simp [PySem.W.keyToksAll, toksZ]
 | x :: r => by simp [PySem.W.keyToksAll, PySem.W.keyToks, toksZ, toks_ints r]
def kZ (a : List Int) : List Int := 1 :: a.sum :: 1 :: (toksZ a ++ [0])
theorem key_toks (a : List Int) : PySem.W.keyToks (keySum a) = (kZ a).map Sum.inl := by simp [keySum, PySem.W.keyToks, PySem.W.keyToksAll, toks_ints, kZ]
theorem sumLe_eq (x y : List Int) : sumLe x y = !ltZ (kZ y) (kZ x) := by
 show (!PyProof.Rows.lexLt PyProof.Rows.itemOrd (PySem.W.keyToks (keySum y)) (PySem.W.keyToks (keySum x))) = _
 rw [key_toks, key_toks, ltZ_eq]
theorem toksZ_inj : ∀ {a b : List Int}, toksZ a = toksZ b → a = b
 | [], [], _ => rfl
 | [], y :: b, h => by
  have h : (0 : Int) :: [] = 1 :: y :: toksZ b := h
  injection h with h
  omega
 | x :: a, [], h => by
  have h : (1 : Int) :: x :: toksZ a = 0 :: [] := h
  injection h with h
  omega
 | x :: a, y :: b, h => by
  have h : (1 : Int) :: x :: toksZ a = 1 :: y :: toksZ b := h
  injection h with _ h
  injection h with h1 h2
  rw [h1, toksZ_inj h2]
theorem sumLe_anti {a b : List Int} (h1 : sumLe a b = true) (h2 : sumLe b a = true) : a = b := by
 rw [sumLe_eq, Bool.not_eq_true'] at h1 h2
 have e := PyProof.Rows.lex_total (O := PyProof.Rows.itemOrd) ((kZ a).map Sum.inl) ((kZ b).map Sum.inl) (by rw [ltZ_eq]; exact h2) (by rw [ltZ_eq]; exact h1)
 have e : kZ a = kZ b := (List.map_inj_right fun x y h => by injection h).mp e
 unfold kZ at e
 injection e with _ e
 injection e with _ e
 injection e with _ e
 exact toksZ_inj (List.append_cancel_right e)
theorem sumLe_tr (a b c : List Int) (h1 : sumLe a b = true) (h2 : sumLe b c = true) : sumLe a c = true := (PySem.W.sortLe_total (PyProof.Rows.listOrd PyProof.Rows.itemOrd) false fun b => PySem.W.keyToks (keySum b)).trans a b c h1 h2
theorem sumLe_tot (a b : List Int) : (sumLe a b || sumLe b a) = true := by
 rw [Bool.or_eq_true]
 exact (PySem.W.sortLe_total (PyProof.Rows.listOrd PyProof.Rows.itemOrd) false fun b => PySem.W.keyToks (keySum b)).total a b
def ordZ : List (List Int) → Bool
 | [] => true
 | p :: r => r.all (fun q => !ltZ (kZ q) (kZ p)) && ordZ r
theorem ordZ_ok : ∀ {l : List (List Int)}, ordZ l = true → l.Pairwise fun a b => sumLe a b = true
 | [], _ => .nil
 | p :: r, h => by
  unfold ordZ at h
  rw [Bool.and_eq_true, List.all_eq_true] at h
  exact .cons (fun q hq => by rw [sumLe_eq]; exact h.1 q hq) (ordZ_ok h.2)
theorem prods_chk : ∀ n, n < 20 → ∀ g, g < 4 → hmp n g ≤ 20 → ordZ (prods n g) = true ∧ (lpw g n).isPerm (prods n g) = true ∧ (prods n g).length ≤ 20 := by decide +kernel
theorem hmp_mono : ∀ n, n < 20 → ∀ g, g < 4 → ∀ m, m < n + 1 → hmp m g ≤ hmp n g := by decide +kernel
theorem lsorted {n g : Nat} (hn : n < 20) (hg : g < 4) (h : hmp n g ≤ 20) : (lpw g n).mergeSort sumLe = prods n g := by
 obtain ⟨h1, h2, _⟩ := prods_chk n hn g hg h
 exact List.Perm.eq_of_pairwise (le := fun a b => sumLe a b = true) (fun a b _ _ h1 h2 => sumLe_anti h1 h2) (List.pairwise_mergeSort sumLe_tr sumLe_tot _) (ordZ_ok h1) ((List.mergeSort_perm _ _).trans (List.isPerm_iff.mp h2))
theorem lpw_few {n g m : Nat} (hn : n < 20) (hg : g < 4) (h : hmp n g ≤ 20) (hm : m ≤ n) : (lpw g m).length ≤ 20 := by
 have hm2 := hmp_mono n hn g hg m (by omega)
 obtain ⟨_, h2, h3⟩ := prods_chk m (by omega) g hg (by omega)
 rw [(List.isPerm_iff.mp h2).length_eq]
 exact h3
theorem sumT_pw (p : List Int) : fSumT [pwD p] = some (.int p.sum) := by
 have hb : ((p.map D.int).all isI) = true := by
  rw [List.all_eq_true]
  rintro d hd
  obtain ⟨x, _, rfl⟩ := List.mem_map.mp hd
  rfl
 show (if (p.map D.int).all isI = true then some (D.int ((p.map D.int).map toI).sum) else none) = _
 rw [if_pos hb]
 refine congrArg (fun z : Int => some (D.int z)) ?_
 rw [List.map_map]
 exact congrArg List.sum (List.map_id _)
theorem snocT_pw {a : Int} {p : List Int} (h : p.length ≤ 9000) : dCatT (pwD p) (.tup [.int a]) = some (pwD (p ++ [a])) := by
 have e : pwD (p ++ [a]) = .tup (p.map D.int ++ [.int a]) := by
  unfold pwD
  rw [List.map_append]
  rfl
 rw [e]
 exact if_pos (by rw [List.length_map, sizeLine_eq]; show p.length + 1 ≤ _; omega)
theorem sort_pw {L : List (List Int)} : fSortSum [.lst (L.map pwD)] = some (.lst ((L.mergeSort sumLe).map pwD)) := by
 have hb : ((L.map pwD).all tupB) = true := by
  rw [List.all_eq_true]
  rintro d hd
  obtain ⟨p, _, rfl⟩ := List.mem_map.mp hd
  show ((p.map D.int).all isI) = true
  rw [List.all_eq_true]
  rintro d hd
  obtain ⟨x, _, rfl⟩ := List.mem_map.mp hd
  rfl
 show (if (L.map pwD).all tupB = true then _ else none) = _
 rw [if_pos hb]
 refine congrArg (fun l => some (D.lst l)) ?_
 refine (List.map_mergeSort fun x _ y _ => ?_).symm
 show sumLe x y = sumLe (tupZ (.tup (x.map D.int))) (tupZ (.tup (y.map D.int)))
 rw [tupZ_int, tupZ_int]
theorem lproducts_eq {n g : Nat} (hn : n < 20) (hg : g < 4) (h : hmp n g ≤ 20) : d__law_products [.int n, .int g] = .ret (.lst ((prods n g).map pwD)) [] := by
 have rn := rngN n (by omega)
 have inner : ∀ (i : Nat) (x5 x6 : D), i < n → ∃ y5 y6, forL (.nm 5) (sDrop (eMut "list" 4 mExtend (aCons (eLc (.nm 6) [] (gRange (aCons (eBin dSub (eBin dAdd (eVar 1) (eC (.int 1))) (eCall1 fSumT (aCons (eVar 5) aNil))) aNil)) tYesD (eFlat (eBin dCatT (eVar 5) (eTup (aCons (eFlat (eVar 6)) aNil))))) aNil))) ((lpw g i).map pwD) [.int n, .int g, .lst ((lpw g i).map pwD), .int i, .lst [], x5, x6] = .nxt [.int n, .int g, .lst ((lpw g i).map pwD), .int i, .lst ((lpw g (i + 1)).map pwD), y5, y6] := by
  intro i x5 x6 hi
  have few := lpw_few hn hg h (m := i + 1) (by omega)
  have few0 := lpw_few hn hg h (m := i) (by omega)
  obtain ⟨_, E, y5, y6, rfl⟩ := forL_map (T := .nm 5) (G := sDrop (eMut "list" 4 mExtend (aCons (eLc (.nm 6) [] (gRange (aCons (eBin dSub (eBin dAdd (eVar 1) (eC (.int 1))) (eCall1 fSumT (aCons (eVar 5) aNil))) aNil)) tYesD (eFlat (eBin dCatT (eVar 5) (eTup (aCons (eFlat (eVar 6)) aNil))))) aNil))) pwD (lpw g i)
   (fun k σ => ∃ y5 y6, σ = [.int n, .int g, .lst ((lpw g i).map pwD), .int i, .lst ((((lpw g i).take k).flatMap fun p => (List.range (g + 1 - p.sum.toNat)).map fun (a : Nat) => p ++ [(a : Int)]).map pwD), y5, y6]) [.int n, .int g, .lst ((lpw g i).map pwD), .int i, .lst [], x5, x6] ⟨_, _, rfl⟩ (by
   rintro k p σ hk ⟨y5, y6, rfl⟩
   obtain ⟨p1, p2, p3⟩ := lpw_ok g i p (List.mem_of_getElem? hk)
   have kl := (List.getElem?_eq_some_iff.mp hk).1
   have sm := sumT_pw p
   have rg : gRng [.int ((g : Int) + 1 - p.sum)] = some ((List.range (g + 1 - p.sum.toNat)).map fun (a : Nat) => D.int (a : Int)) := by
    rw [rngL1 (by omega) (by omega), ← rng0]
    refine congrArg (fun m => some (rngD 0 m)) ?_
    omega
   have tk : (lpw g i).take (k + 1) = (lpw g i).take k ++ [p] := by rw [List.take_add_one, hk]; rfl
   obtain ⟨_, c, z6, rfl⟩ := lcL_mapG (T := .nm 6) (ge := eFlat (eBin dCatT (eVar 5) (eTup (aCons (eFlat (eVar 6)) aNil)))) (fun (a : Nat) => D.int (a : Int)) (fun (a : Nat) => pwD (p ++ [(a : Int)])) (fun σ => ∃ z6, σ = [.int n, .int g, .lst ((lpw g i).map pwD), .int i, .lst ((((lpw g i).take k).flatMap fun p => (List.range (g + 1 - p.sum.toNat)).map fun (a : Nat) => p ++ [(a : Int)]).map pwD), pwD p, z6]) (List.range (g + 1 - p.sum.toNat)) [.int n, .int g, .lst ((lpw g i).map pwD), .int i, .lst ((((lpw g i).take k).flatMap fun p => (List.range (g + 1 - p.sum.toNat)).map fun (a : Nat) => p ++ [(a : Int)]).map pwD), pwD p, y6] ⟨_, rfl⟩ (by
    rintro a ha σ ⟨z6, rfl⟩
    have ct := snocT_pw (a := (a : Int)) (p := p) (by omega)
    refine ⟨[.int n, .int g, .lst ((lpw g i).map pwD), .int i, .lst ((((lpw g i).take k).flatMap fun p => (List.range (g + 1 - p.sum.toNat)).map fun (a : Nat) => p ++ [(a : Int)]).map pwD), pwD p, .int a], [.int n, .int g, .lst ((lpw g i).map pwD), .int i, .lst ((((lpw g i).take k).flatMap fun p => (List.range (g + 1 - p.sum.toNat)).map fun (a : Nat) => p ++ [(a : Int)]).map pwD), pwD p, .int a], rfl, ?_, _, rfl⟩
    simp only [EX, ct, fl2P])
   have lz : ((List.range (g + 1 - p.sum.toNat)).map fun (a : Nat) => D.int (a : Int)).length ≤ sizeLine := lc_small (by rw [List.length_map, List.length_range]; omega)
   have part : (((lpw g i).take (k + 1)).flatMap fun p => (List.range (g + 1 - p.sum.toNat)).map fun (a : Nat) => p ++ [(a : Int)]).length ≤ 20 := by
    refine Nat.le_trans ?_ few
    show _ ≤ ((lpw g i).flatMap fun p => (List.range (g + 1 - p.sum.toNat)).map fun (a : Nat) => p ++ [(a : Int)]).length
    conv => rhs; rw [← List.take_append_drop (k + 1) (lpw g i), List.flatMap_append, List.length_append]
    omega
   have ex : mExtend (.lst ((((lpw g i).take k).flatMap fun p => (List.range (g + 1 - p.sum.toNat)).map fun (a : Nat) => p ++ [(a : Int)]).map pwD)) [.lst ((List.range (g + 1 - p.sum.toNat)).map fun (a : Nat) => pwD (p ++ [(a : Int)]))] = some (.lst ((((lpw g i).take (k + 1)).flatMap fun p => (List.range (g + 1 - p.sum.toNat)).map fun (a : Nat) => p ++ [(a : Int)]).map pwD), .non) := by
    have e : (((lpw g i).take (k + 1)).flatMap fun p => (List.range (g + 1 - p.sum.toNat)).map fun (a : Nat) => p ++ [(a : Int)]) = (((lpw g i).take k).flatMap fun p => (List.range (g + 1 - p.sum.toNat)).map fun (a : Nat) => p ++ [(a : Int)]) ++ (List.range (g + 1 - p.sum.toNat)).map fun (a : Nat) => p ++ [(a : Int)] := by
     rw [tk, List.flatMap_append, List.flatMap_cons, List.flatMap_nil, List.append_nil]
    rw [e, List.length_append, List.length_map] at part
    rw [e, List.map_append, List.map_map]
    exact if_pos (by rw [List.length_map, List.length_map, sizeLine_eq]; omega)
   refine ⟨[.int n, .int g, .lst ((lpw g i).map pwD), .int i, .lst ((((lpw g i).take k).flatMap fun p => (List.range (g + 1 - p.sum.toNat)).map fun (a : Nat) => p ++ [(a : Int)]).map pwD), pwD p, y6], [.int n, .int g, .lst ((lpw g i).map pwD), .int i, .lst ((((lpw g i).take (k + 1)).flatMap fun p => (List.range (g + 1 - p.sum.toNat)).map fun (a : Nat) => p ++ [(a : Int)]).map pwD), pwD p, z6], rfl, ?_, _, _, rfl⟩
   simp only [EX, sm, rg, lc2_0 lz, c, ex])
  rw [List.take_length] at E
  exact ⟨y5, y6, E⟩
 have gl : ∀ (i : Nat) (σ : List D), list2 (.ok (.lst ((lpw g i).map pwD)) σ) = .ok ((lpw g i).map pwD) σ := fun i σ => rfl
 obtain ⟨_, E, y3, y4, y5, y6, rfl⟩ := forL_rng (T := .nm 3) (G := (sSeq (sSet 4 (eLst aNil))
 (sSeq (sFor (.nm 5) (gList (eVar 2))
 (sDrop (eMut "list" 4 mExtend (aCons (eLc (.nm 6) [] (gRange (aCons (eBin dSub (eBin dAdd (eVar 1) (eC (.int 1))) (eCall1 fSumT (aCons (eVar 5) aNil))) aNil)) tYesD (eFlat (eBin dCatT (eVar 5) (eTup (aCons (eFlat (eVar 6)) aNil))))) aNil))))
 (sSet 2 (eVar 4))))) n (fun i σ => ∃ y3 y4 y5 y6, σ = [.int n, .int g, .lst ((lpw g i).map pwD), y3, y4, y5, y6]) [.int n, .int g, .lst ((lpw g 0).map pwD), .non, .non, .non, .non] ⟨_, _, _, _, rfl⟩ (by
  rintro i σ hi ⟨y3, y4, y5, y6, rfl⟩
  obtain ⟨z5, z6, e⟩ := inner i y5 y6 hi
  refine ⟨[.int n, .int g, .lst ((lpw g i).map pwD), .int i, y4, y5, y6], [.int n, .int g, .lst ((lpw g (i + 1)).map pwD), .int i, .lst ((lpw g (i + 1)).map pwD), z5, z6], rfl, ?_, _, _, _, _, rfl⟩
  simp only [EX, gl, e])
 have E : forL (.nm 3) _ (rngD 0 n) [.int n, .int g, .lst [.tup []], .non, .non, .non, .non] = _ := E
 have so := sort_pw (L := lpw g n)
 rw [lsorted hn hg h] at so
 unfold d__law_products
 simp only [EX, rn, E, so]
theorem room_x {n d : Nat} (hd : d ≤ 100) (hn : n ≤ 100) (h : 20 < hmp n d) : d_products_of [.int n, .int d] = .exc "NoRoom" .non [] := by
 have hm := how_many_eq hd hn
 have gt : dGt (.int (hmp n d : Int)) (.int 20) = some (.bl true) := by
  have e : dGt (.int (hmp n d : Int)) (.int 20) = _ := gt_ii
  rw [e, decide_eq_true (by omega)]
 have lr : d_look_room [.int n, .int d] = .exc "NoRoom" .non [] := by
  unfold d_look_room
  simp only [EX, hm, gt]
 unfold d_products_of
 simp only [EX, lr]
def due31 (n g : Nat) : D := if hmp n g ≤ 20 then .lst ((prods n g).map pwD) else .tup [.bl true, .bl true, .bl false, .bl false]
theorem lsaid_eq {n g : Nat} (hn : n < 20) (hg : g < 4) : d__law_said [.int n, .int g] = .ret (due31 n g) [] := by
 unfold due31
 by_cases h : hmp n g ≤ 20
 · rw [if_pos h]
   obtain ⟨_, _, h3⟩ := prods_chk n hn g hg h
   have e := prods_eq (n := n) (d := g) (by omega) (by omega) h (by omega)
   unfold d__law_said
   simp only [EX, e]
 · rw [if_neg h]
   have e := room_x (n := n) (d := g) (by omega) (by omega) (by omega)
   have h1 : hitX "RollError" "NoRoom" = some true := by decide
   have h2 : hitX "NoRoom" "NoRoom" = some true := by decide
   have h3 : hitVE "NoRoom" = some true := by decide
   have h4 : hitX "TooMany" "NoRoom" = some false := by decide
   have h5 : hitX "NotEven" "NoRoom" = some false := by decide
   unfold d__law_said
   simp only [EX, e, hdl_hit h1, isx2_p h2, isx2_p h3, isx2_p h4, isx2_p h5]
theorem plain_pws {n g : Nat} (hn : n < 20) (hg : g < 4) : plain 21 (due31 n g) := by
 unfold due31
 by_cases h : hmp n g ≤ 20
 · rw [if_pos h]
   obtain ⟨_, _, h3⟩ := prods_chk n hn g hg h
   refine ⟨by rw [List.length_map]; omega, fun d hd => ?_⟩
   obtain ⟨p, hp, rfl⟩ := List.mem_map.mp hd
   have pl : p.length = n := by
    unfold prods at hp
    obtain ⟨t, _, hp⟩ := List.mem_flatMap.mp hp
    exact pws_len _ _ p hp
   exact plain.pw (by omega) 19
 · rw [if_neg h]
   exact ⟨by simp, fun d hd => by
    have : d = .bl true ∨ d = .bl false := by simpa using hd
    rcases this with rfl | rfl <;> exact True.intro⟩
theorem law_any {F0 : D} {ns : List Int} (hn : ns.length ≤ 63) (hl : fLen [F0] = some (.int ns.length)) (hb : ∀ i : Nat, i ≤ 100 → ∃ b, d__law_bag [F0, .int i] = .ret b [] ∧ Bag 0 b) : ∃ outs, d_law [F0] = .ret (.bl true) outs := by
 obtain ⟨q, hq, er⟩ := cells_rng 4 ns hn (by omega) (by omega)
 rw [List.length_map] at er
 unfold d_law
 generalize hT : (sSeq (sPar 4 5 _) _) = T
 have turn : ∀ (i : Nat) (b : D) (k : Int) (t x4 x5 x6 x7 x8 : D), Bag k b → k < 2 ^ 10 → ∃ b' y4 y5 y6 y7 y8, T [F0, .int i, b, t, x4, x5, x6, x7, x8] = .nxt [F0, .int i, b', t, y4, y5, y6, y7, y8] ∧ Bag (k + 5) b' := by
  intro i b k t x4 x5 x6 x7 x8 B hk
  obtain ⟨t1, b1, e1, t10, t11, B1⟩ := take_eq (n := 19) B (by omega) (by omega) (by omega)
  obtain ⟨t2, b2, e2, t20, t21, B2⟩ := take_eq (n := 3) B1 (by omega) (by omega) (by omega)
  obtain ⟨t3, b3, e3, t30, t31, B3⟩ := take_eq (n := 2) B2 (by omega) (by omega) (by omega)
  have q3 : dEq (.int t3) (.int 0) = some (.bl (decide (t3 = 0))) := eq_ii
  subst hT
  generalize hS : (sSeq (sSet 7 (eTup _)) _) = S
  have rest : ∀ (b' : D) (n g : Nat) (x6 x7 x8 : D), n < 20 → g < 4 → ∃ y7 y8, S [F0, .int i, b', t, .int n, .int g, x6, x7, x8] = .nxt [F0, .int i, b', t, .int n, .int g, x6, y7, y8] := by
   intro b' n g x6 x7 x8 hn hg
   have lc := lcount_eq (n := n) (d := g) (by omega) (by omega)
   have ls := lsaid_eq hn hg
   have sm := same_refl (plain_pws hn hg)
   have le : dLe (.int (hmp n g : Nat)) (.int 20) = some (.bl (decide ((hmp n g : Int) ≤ 20))) := le_ii
   subst hS
   by_cases h : hmp n g ≤ 20
   · have lp := lproducts_eq hn hg h
     obtain ⟨_, _, h3⟩ := prods_chk n hn g hg h
     have ed : due31 n g = .lst ((prods n g).map pwD) := if_pos h
     rw [ed] at ls sm
     rw [decide_eq_true (by omega)] at le
     have il : fIs .list (.lst ((prods n g).map pwD)) = some (.bl true) := rfl
     have it : isTy "list" (.lst ((prods n g).map pwD)) = true := rfl
     have ap : mAppend (.lst ((prods n g).map pwD)) [.non] = some (.lst ((prods n g).map pwD ++ [.non]), .non) := append_l (by rw [List.length_map, sizeLine_eq]; omega)
     refine ⟨.lst ((prods n g).map pwD), .lst ((prods n g).map pwD ++ [.non]), ?_⟩
     simp only [EX, lc, le, lp, ls, sm, il, it, ap]
   · have ed : due31 n g = .tup [.bl true, .bl true, .bl false, .bl false] := if_neg h
     rw [ed] at ls sm
     rw [decide_eq_false (by omega)] at le
     have il : fIs .list (.tup [.bl true, .bl true, .bl false, .bl false]) = some (.bl false) := rfl
     refine ⟨.tup [.bl true, .bl true, .bl false, .bl false], .tup [.bl true, .bl true, .bl false, .bl false], ?_⟩
     simp only [EX, lc, le, ls, sm, il]
  by_cases h3 : t3 = 0
  · rw [decide_eq_true h3] at q3
    obtain ⟨t4, b4, e4, t40, t41, B4⟩ := take_eq (n := 3) B3 (by omega) (by omega) (by omega)
    obtain ⟨g, mo, g4, m0, m19, ix⟩ : ∃ g mo : Nat, g < 4 ∧ 0 < mo ∧ mo ≤ 19 ∧ dIx (.lst [.tup [.int 1, .int 19], .tup [.int 2, .int 4], .tup [.int 3, .int 3]]) (.int t4) = some (.tup [.int (g : Nat), .int (mo : Nat)]) := by
     rcases (show t4 = 0 ∨ t4 = 1 ∨ t4 = 2 by omega) with rfl | rfl | rfl
     · exact ⟨1, 19, by omega, by omega, by omega, ix_l0⟩
     · exact ⟨2, 4, by omega, by omega, by omega, ix_lN (n := 1) rfl⟩
     · exact ⟨3, 3, by omega, by omega, by omega, ix_lN (n := 2) rfl⟩
    obtain ⟨t5, b5, e5, t50, t51, B5⟩ := take_eq (n := mo) B4 (by omega) (by omega) (by omega)
    obtain ⟨n, en⟩ : ∃ n : Nat, 1 + t5 = (n : Int) := ⟨(1 + t5).toNat, by omega⟩
    have bt : ∀ a c d x7 x8 : D, soO (bindT (.tp [5, 6]) (.tup [.int (g : Nat), .int (mo : Nat)]) [F0, .int i, b4, t, a, c, d, x7, x8]) = .nxt [F0, .int i, b4, t, a, .int (g : Nat), .int (mo : Nat), x7, x8] := fun _ _ _ _ _ => rfl
    obtain ⟨y7, y8, e⟩ := rest b5 n g (.int (mo : Nat)) x7 x8 (by omega) g4
    refine ⟨b5, .int n, .int g, .int (mo : Nat), y7, y8, ?_, B5.mono (by omega)⟩
    simp only [EX, e1, e2, e3, q3, e4, ix, bt, e5, en, e]
  · rw [decide_eq_false h3] at q3
    obtain ⟨n, en⟩ : ∃ n : Nat, 1 + t1 = (n : Int) := ⟨(1 + t1).toNat, by omega⟩
    obtain ⟨g, eg⟩ : ∃ g : Nat, 1 + t2 = (g : Int) := ⟨(1 + t2).toNat, by omega⟩
    obtain ⟨y7, y8, e⟩ := rest b3 n g x6 x7 x8 (by omega) (by omega)
    refine ⟨b3, .int n, .int g, x6, y7, y8, ?_, B3.mono (by omega)⟩
    simp only [EX, e1, e2, e3, q3, en, eg, e]
 have rg : gRng [.int 4] = some (rngD 0 4) := rngN 4 (by omega)
 generalize hG : (sSeq (sSet 2 (eCall d__law_bag [] _)) _) = G
 have body : ∀ (i : Nat) (x2 x3 x4 x5 x6 x7 x8 : D), i ≤ 100 → ∃ y2 y3 y4 y5 y6 y7 y8, G [F0, .int i, x2, x3, x4, x5, x6, x7, x8] = .nxt [F0, .int i, y2, y3, y4, y5, y6, y7, y8] := by
  intro i x2 x3 x4 x5 x6 x7 x8 hi
  obtain ⟨b0, e0, B0⟩ := hb i hi
  obtain ⟨_, E, b, y3, y4, y5, y6, y7, y8, rfl, _⟩ := forL_rng (T := .nm 3) (G := T) 4 (fun j σ => ∃ b y3 y4 y5 y6 y7 y8, σ = [F0, .int i, b, y3, y4, y5, y6, y7, y8] ∧ Bag (5 * j) b) [F0, .int i, b0, x3, x4, x5, x6, x7, x8] ⟨_, _, _, _, _, _, _, rfl, B0.mono (by omega)⟩ (by
   rintro j σ hj ⟨b, y3, y4, y5, y6, y7, y8, rfl, B⟩
   obtain ⟨b', z4, z5, z6, z7, z8, e, B'⟩ := turn i b (5 * j) (.int j) y4 y5 y6 y7 y8 B (by omega)
   exact ⟨_, _, rfl, e, _, _, _, _, _, _, _, rfl, B'.mono (by omega)⟩)
  subst hG
  exact ⟨b, y3, y4, y5, y6, y7, y8, by simp only [EX, e0, rg, E]⟩
 obtain ⟨_, E, a, y2, y3, y4, y5, y6, y7, y8, rfl⟩ := forL_rng (T := .nm 1) (G := G) q (fun _ σ => ∃ a y2 y3 y4 y5 y6 y7 y8, σ = [F0, a, y2, y3, y4, y5, y6, y7, y8]) [F0, .non, .non, .non, .non, .non, .non, .non, .non] ⟨_, _, _, _, _, _, _, _, rfl⟩ (by
  rintro i σ hi ⟨a, y2, y3, y4, y5, y6, y7, y8, rfl⟩
  obtain ⟨z2, z3, z4, z5, z6, z7, z8, e⟩ := body i y2 y3 y4 y5 y6 y7 y8 (by omega)
  exact ⟨_, _, rfl, e, _, _, _, _, _, _, _, _, rfl⟩)
 exact ⟨_, by simp only [EX, hl, er, E]; rfl⟩
theorem law_holds : ∀ ns : List Int, ns.length ≤ 63 → (∀ z ∈ ns, Builtin.Int.intBits z ≤ 1048576) → (∃ outs, d_law [.fzl (ns.map D.int)] = .ret (.bl true) outs) ∧ ∃ outs, d_law [.lst (ns.map D.int)] = .ret (.bl true) outs := fun ns hn _ =>
 ⟨law_any hn (by show some (D.int ((ns.map D.int).length : Nat)) = _; rw [List.length_map]) (fun i hi => bag_eq ns i hi), law_any hn (by show some (D.int ((ns.map D.int).length : Nat)) = _; rw [List.length_map]) (fun i hi => bagL_eq ns i hi)⟩
end Law
namespace Law
open PySem PySem.Spec PySem.SeqAt PyProof.Rows L2 Ow
variable {P : Program} {w : World} {K : PySem.W.Frag} {mg : Str → Option Value} {base : Heap}
local macro_rules
 | `(sP) => `(some (.bor [.prm]))
 | `(sO) => `(some (.own))
 | `(sN) => `(some (.bor []))
 | `(dA) => `(⟨by decide, by decide, rfl, by decide, by decide, by decide, by decide, by decide, by decide, by decide, by decide⟩)
 | `(dB) => `(⟨by decide, by decide, by decide, by decide, by decide, by decide, by decide, by decide⟩)
 | `(dK) => `(⟨rfl, rfl, rfl, by decide +kernel, rfl, by decide +kernel, by decide +kernel⟩)
local macro_rules
 | `(vP $n:num) => `(ej_var (i := $n) (k := .bor [.prm]) rfl (pv $n))
 | `(vO $n:num) => `(ej_var (i := $n) (k := .own) rfl (pv $n))
 | `(vN $n:num) => `(ej_var (i := $n) (k := .bor []) rfl (pv $n))
 | `(vB $n:num [$l,*]) => `(ej_var (i := $n) (k := .bor [$l,*]) rfl (pv $n))
theorem sc__law_bag : FnScope ["_law_script", "_law_at", "_law_cell"] ["_law_script", "_law_at"] (defScope (top 12)) := dK
theorem c__law_bag (c : FazT fa fn cs K mg base) : Fnc P w K mg base "_law_bag" 1 2 [] .T d__law_bag :=
 fnc_of c.toFax 0 0 (Γ' := ctxIo 3 []) rfl rfl sc__law_bag rfl rfl (by decide) (by decide) (by decide) (fun _ _ _ _ _ _ us hl => match us, hl with | [_, _], _ => rfl) fun cdv A outer s H E hr =>
 (bj_cons (sj_weak (Γ2 := [sP, sP, sO]) (sj_set (i := 2) sc__law_bag.nd rfl (ej_add (ej_mul ej_int (vP 1)) ej_int)))
(bj_cons (sj_if (Γ' := [sP, sP, sO]) (tj_lt (vP 1) (ej_len (c.free 11 rfl) (aj_cons (vP 0) aj_nil)))
(bj_weak (bj_one (sj_weak (Γ2 := [sP, sP, sO]) (sj_set (i := 2) sc__law_bag.nd rfl (ej_flat (ej_ix (vP 0) (vP 1)))))))
(bj_weak bj_nil))
(bj_one (sj_ret (ej_lst (aj_cons (ej_mul (ej_abs (c.free 12 rfl) (aj_cons (vO 2) aj_nil)) (ej_intc (c.free 13 rfl) (aj_cons (ej_ge (ej_abs (c.free 12 rfl) (aj_cons (vO 2) aj_nil)) (ej_pow ej_int ej_int)) aj_nil))) (aj_cons (ej_add (ej_mod (vO 2) ej_int) (ej_mul ej_int (vP 1))) (aj_cons ej_int aj_nil))))))))
theorem sc__law_count : FnScope ["_law_n", "_law_degree", "_law_found", "_law_k"] ["_law_n", "_law_degree"] (defScope (top 16)) := dK
theorem c__law_count (c : FazT fa fn cs K mg base) : Fnc P w K mg base "_law_count" 1 2 [] .T d__law_count :=
 fnc_of c.toFax 1 1 (Γ' := ctxIo 4 []) rfl rfl sc__law_count rfl rfl (by decide) (by decide) (by decide) (fun _ _ _ _ _ _ us hl => match us, hl with | [_, _], _ => rfl) fun cdv A outer s H E hr =>
 (bj_cons (sj_weak (Γ2 := [sP, sP, sO, none]) (sj_set (i := 2) sc__law_count.nd rfl ej_int))
(bj_cons (sj_pre (Γ1 := [sP, sP, sO, none]) (sj_for (T := .nm 3) (Γ' := [sP, sP, sO, none]) passes_c rfl (ij_range2 (c.free 14 rfl) (aj_cons ej_int (aj_cons (ej_add (vP 1) ej_int) aj_nil))) (pg_name sc__law_count.nd rfl (.inl rfl))
(bj_weak (bj_one (sj_weak (Γ2 := [sP, sP, sO, sN]) (sj_set (i := 2) sc__law_count.nd rfl (ej_div (ej_mul (vO 2) (ej_add (vP 0) (vN 3))) (vN 3))))))))
(bj_one (sj_ret (ej_flat (vO 2))))))
theorem sc__law_products : FnScope ["_law_n", "_law_degree", "_law_found", "_law_letter", "_law_longer", "_law_powers", "_law_power"] ["_law_n", "_law_degree"] (defScope (top 15)) := dK
theorem c__law_products (c : FazT fa fn cs K mg base) : Fnc P w K mg base "_law_products" 1 2 [] .T d__law_products :=
 fncL_of c 2 2 (Γ' := ctxIo 7 []) rfl rfl sc__law_products rfl rfl (by decide) (by decide) (by decide) (fun _ _ _ _ _ _ us hl => match us, hl with | [_, _], _ => rfl) fun cc tq A outer s H E hr lamat tabat =>
 (bj_cons (sj_weak (Γ2 := [sP, sP, sO, none, none, none, none]) (sj_set (i := 2) sc__law_products.nd rfl (ej_lst (aj_cons (ej_tup aj_nil) aj_nil))))
(bj_cons (sj_pre (Γ1 := [sP, sP, some (.bor [.slt 4, .slt 2]), none, none, none, none]) (sj_for (T := .nm 3) (Γ' := [sP, sP, some (.bor [.slt 4, .slt 2]), none, none, none, none]) passes_c rfl (ij_range1 (c.free 14 rfl) (aj_cons (ej_flat (vP 0)) aj_nil)) (pg_name sc__law_products.nd rfl (.inl rfl))
(bj_weak (bj_cons (sj_weak (Γ2 := [sP, sP, some (.bor [.slt 2]), sN, sO, none, none]) (sj_set (i := 4) sc__law_products.nd rfl (ej_lst aj_nil)))
(bj_cons (sj_pre (Γ1 := [sP, sP, some (.bor [.slt 2]), sN, sO, none, none]) (sj_for (T := .nm 5) (Γ' := [sP, sP, some (.bor [.slt 2]), sN, sO, none, none]) passes_c rfl (ij_list (vB 2 [.slt 2])) (pg_name sc__law_products.nd rfl (.inr rfl))
(bj_weak (bj_one (sj_expr (ej_extend (r := 4) (pv 4) (aj_cons (ej_lc (own := [("_law_power", 6)]) (T := .nm 6) (vr := []) (Γ' := [sP, sP, some (.bor [.slt 2]), sN, sO, some (.bor [.slt 2]), sN]) rfl sc__law_products.nd (ij_range1 (c.free 14 rfl) (aj_cons (ej_sub (ej_add (vP 1) ej_int) (ej_sumT rfl (c.free 15 rfl) (aj_cons (vB 5 [.slt 2]) aj_nil))) aj_nil)) (blkOk_by (N := ["_law_n", "_law_degree", "_law_found", "_law_letter", "_law_longer", "_law_powers", "_law_power"]) (sc := defScope (top 15)) (by decide +kernel)) (fun _ _ _ _ _ => (pg_name sc__law_products.nd rfl (.inl rfl))) (fun _ _ _ _ _ => ptj_nil) (fun _ _ _ _ _ => (ej_flat (ej_catT (vB 5 [.slt 2]) (ej_tup (aj_cons (ej_flat (vN 6)) aj_nil))))) dB) aj_nil)))))))
(bj_one (sj_weak (Γ2 := [sP, sP, some (.bor [.slt 4]), sN, sO, none, none]) (sj_set (i := 2) sc__law_products.nd rfl (vO 4)))))))))
(bj_one (sj_ret (ej_sortSum rfl hr lamat tabat (c.free 16 rfl) (c.free 15 rfl) ⟨by rfl, by rfl, by rfl, by decide +kernel, by decide +kernel, by decide +kernel, fun _ => by rfl, fun _ => by rfl, fun _ _ _ _ => by rfl, by decide⟩ (aj_cons (vB 2 [.slt 4, .slt 2]) aj_nil))))))
theorem sc_how_many_products : FnScope ["n", "degree", "found", "k"] ["n", "degree"] (defScope (top 7)) := dK
theorem c_how_many_products (c : FazT fa fn cs K mg base) : Fnc P w K mg base "how_many_products" 1 2 [] .T d_how_many_products :=
 fnc_of c.toFax 3 3 (Γ' := ctxIo 4 []) rfl rfl sc_how_many_products rfl rfl (by decide) (by decide) (by decide) (fun _ _ _ _ _ _ us hl => match us, hl with | [_, _], _ => rfl) fun cdv A outer s H E hr =>
 (bj_cons (sj_weak (Γ2 := [sP, sP, sO, none]) (sj_set (i := 2) sc_how_many_products.nd rfl ej_int))
(bj_cons (sj_pre (Γ1 := [sP, sP, sO, none]) (sj_for (T := .nm 3) (Γ' := [sP, sP, sO, none]) passes_c rfl (ij_range2 (c.free 14 rfl) (aj_cons ej_int (aj_cons (ej_add (vP 1) ej_int) aj_nil))) (pg_name sc_how_many_products.nd rfl (.inl rfl))
(bj_weak (bj_one (sj_weak (Γ2 := [sP, sP, sO, sN]) (sj_set (i := 2) sc_how_many_products.nd rfl (ej_div (ej_mul (vO 2) (ej_add (vP 0) (vN 3))) (vN 3))))))))
(bj_one (sj_ret (ej_flat (vO 2))))))
theorem sc_look_room : FnScope ["n", "degree"] ["n", "degree"] (defScope (top 8)) := dK
theorem c_look_room (c : FazT fa fn cs K mg base) : Fnc P w K mg base "look_room" 2 2 [] .T d_look_room :=
 fnc_of c.toFax 4 4 (Γ' := ctxIo 2 []) rfl rfl sc_look_room rfl rfl (by decide) (by decide) (by decide) (fun _ _ _ _ _ _ us hl => match us, hl with | [_, _], _ => rfl) fun cdv A outer s H E hr =>
 (bj_weak (Γ2 := ctxIo 2 []) (bj_one (sj_if (Γ' := [sP, sP]) (tj_gt (ej_callC (rs := []) (c_how_many_products c) rfl (hr.mono (by decide)) takes_c (aj_cons (vP 0) (aj_cons (vP 1) aj_nil)) dA) (ej_cst (c.cst 0 rfl)))
(bj_one (sj_raiseX c.x rfl takes_c (c.glo 17 rfl)))
(bj_weak bj_nil))))
theorem sc_powers_of_sum : FnScope ["n", "total", "found", "first", "rest"] ["n", "total"] (defScope (top 9)) := dK
theorem cN_powers_of_sum (c : FazT fa fn cs K mg base) : ∀ k : Nat, Fnc P w K mg base "powers_of_sum" (1 + k) 2 [] .T (dN_powers_of_sum k)
 | 0 => fnc_of c.toFax 5 5 (Γ' := ctxIo 5 []) rfl rfl sc_powers_of_sum rfl rfl (by decide) (by decide) (by decide) (fun _ _ _ _ _ _ us hl => match us, hl with | [_, _], _ => rfl) fun cdv A outer s H E hr =>
 bj_stuck (m := [])
 | k + 1 => have ih := cN_powers_of_sum c k
  fnc_of c.toFax 5 5 (Γ' := ctxIo 5 []) rfl rfl sc_powers_of_sum rfl rfl (by decide) (by decide) (by decide) (fun _ _ _ _ _ _ us hl => match us, hl with | [_, _], _ => rfl) fun cdv A outer s H E hr =>
 (bj_cons (sj_if (Γ' := [sP, sP, none, none, none]) (tj_eq (hu64 hr) (vP 0) ej_int)
(bj_one (sj_ret (ej_if (tj_eq (hu64 hr) (vP 1) ej_int) (ej_lst (aj_cons (ej_tup aj_nil) aj_nil)) (ej_lst aj_nil))))
(bj_weak bj_nil))
(bj_cons (sj_weak (Γ2 := [sP, sP, sO, none, none]) (sj_set (i := 2) sc_powers_of_sum.nd rfl (ej_lst aj_nil)))
(bj_cons (sj_pre (Γ1 := [sP, sP, sO, none, none]) (sj_for (T := .nm 3) (Γ' := [sP, sP, sO, none, none]) passes_c rfl (ij_range1 (c.free 14 rfl) (aj_cons (ej_add (vP 1) ej_int) aj_nil)) (pg_name sc_powers_of_sum.nd rfl (.inr rfl))
(bj_weak (bj_one (sj_expr (ej_extend (r := 2) (pv 2) (aj_cons (ej_lc (own := [("rest", 4)]) (T := .nm 4) (vr := []) (Γ' := [sP, sP, sO, sN, some (.bor [.tmp 1])]) rfl sc_powers_of_sum.nd (ij_list (ej_callC (rs := []) ih rfl (hr.mono (Nat.le_refl _)) takes_c (aj_cons (ej_sub (vP 0) ej_int) (aj_cons (ej_sub (vP 1) (vN 3)) aj_nil)) dA)) (blkOk_by (N := ["n", "total", "found", "first", "rest"]) (sc := defScope (top 9)) (by decide +kernel)) (fun _ _ _ _ _ => (pg_name sc_powers_of_sum.nd rfl (.inl rfl))) (fun _ _ _ _ _ => ptj_nil) (fun _ _ _ _ _ => (ej_flat (ej_catT (ej_tup (aj_cons (ej_flat (vN 3)) aj_nil)) (vB 4 [.tmp 1])))) dB) aj_nil)))))))
(bj_one (sj_retV (i := 2) (pv 2) rfl)))))
theorem c_powers_of_sum (c : FazT fa fn cs K mg base) : Fnc P w K mg base "powers_of_sum" 23 2 [] .T d_powers_of_sum := cN_powers_of_sum c 22
theorem sc_products_of : FnScope ["n", "degree", "found", "total"] ["n", "degree"] (defScope (top 10)) := dK
theorem c_products_of (c : FazT fa fn cs K mg base) : Fnc P w K mg base "products_of" 24 2 [] .T d_products_of :=
 fnc_of c.toFax 6 6 (Γ' := ctxIo 4 []) rfl rfl sc_products_of rfl rfl (by decide) (by decide) (by decide) (fun _ _ _ _ _ _ us hl => match us, hl with | [_, _], _ => rfl) fun cdv A outer s H E hr =>
 (bj_cons (sj_expr (ej_callC (rs := []) (c_look_room c) rfl (hr.mono (by decide)) takes_c (aj_cons (vP 0) (aj_cons (vP 1) aj_nil)) dA))
(bj_cons (sj_weak (Γ2 := [sP, sP, sO, none]) (sj_set (i := 2) sc_products_of.nd rfl (ej_lst aj_nil)))
(bj_cons (sj_pre (Γ1 := [sP, sP, sO, none]) (sj_for (T := .nm 3) (Γ' := [sP, sP, sO, none]) passes_c rfl (ij_range1 (c.free 14 rfl) (aj_cons (ej_add (vP 1) ej_int) aj_nil)) (pg_name sc_products_of.nd rfl (.inl rfl))
(bj_weak (bj_one (sj_expr (ej_extend (r := 2) (pv 2) (aj_cons (ej_callC (rs := []) (c_powers_of_sum c) rfl (hr.mono (by decide)) takes_c (aj_cons (vP 0) (aj_cons (vN 3) aj_nil)) dA) aj_nil)))))))
(bj_one (sj_retV (i := 2) (pv 2) rfl)))))
theorem sc__law_said : FnScope ["_law_n", "_law_degree", "e"] ["_law_n", "_law_degree"] (defScope (top 18)) := dK
theorem c__law_said (c : FazT fa fn cs K mg base) : Fnc P w K mg base "_law_said" 25 2 [] .T d__law_said :=
 fnc_of c.toFax 7 7 (Γ' := ctxIo 3 []) rfl rfl sc__law_said rfl rfl (by decide) (by decide) (by decide) (fun _ _ _ _ _ _ us hl => match us, hl with | [_, _], _ => rfl) fun cdv A outer s H E hr =>
 (bj_one (sj_try (Γ1 := [none, none, none]) (Γt := [sP, sP, none]) (i := 2) rfl rfl sc__law_said.nd rfl rfl ⟨rfl, by decide, .inl (c.glo 22 rfl)⟩ takes_c (c.x.exm (c.glo 22 rfl) (by decide))
 (fun W pn xe tk ps => (bj_one (sj_ret (ej_callC (rs := []) (c_products_of c) rfl (hr.mono (by decide)) tk (aj_cons (vP 0) (aj_cons (vP 1) aj_nil)) dA))))
 (fun a oe pn h1 h2 => (bj_one (sj_ret (ej_tup (aj_cons (ej_isxC c.x (c.free 18 rfl) (c.glo 17 rfl) (ej_var (i := 2) (k := .exc [.out, .slt 2]) rfl (pv 2))) (aj_cons (ej_isxV c.x (c.free 18 rfl) (c.free 19 rfl) (ej_var (i := 2) (k := .exc [.out, .slt 2]) rfl (pv 2))) (aj_cons (ej_isxC c.x (c.free 18 rfl) (c.glo 20 rfl) (ej_var (i := 2) (k := .exc [.out, .slt 2]) rfl (pv 2))) (aj_cons (ej_isxC c.x (c.free 18 rfl) (c.glo 21 rfl) (ej_var (i := 2) (k := .exc [.out, .slt 2]) rfl (pv 2))) aj_nil))))))))))
theorem sc__law_same : FnScope ["_law_one", "_law_other", "_law_a", "_law_b"] ["_law_one", "_law_other"] (defScope (top 17)) := dK
theorem cN__law_same (c : FazT fa fn cs K mg base) : ∀ k : Nat, Fnc P w K mg base "_law_same" (1 + k) 2 [] .T (dN__law_same k)
 | 0 => fnc_of c.toFax 8 8 (Γ' := ctxIo 4 []) rfl rfl sc__law_same rfl rfl (by decide) (by decide) (by decide) (fun _ _ _ _ _ _ us hl => match us, hl with | [_, _], _ => rfl) fun cdv A outer s H E hr =>
 bj_stuck (m := [])
 | k + 1 => have ih := cN__law_same c k
  fnc_of c.toFax 8 8 (Γ' := ctxIo 4 []) rfl rfl sc__law_same rfl rfl (by decide) (by decide) (by decide) (fun _ _ _ _ _ _ us hl => match us, hl with | [_, _], _ => rfl) fun cdv A outer s H E hr =>
 (bj_cons (sj_if (Γ' := [sP, sP, none, none]) (tj_of_w (wj_or (tj_ne (hu64 hr) (ej_is (T := .list) (by decide) (c.free 18 rfl) (c.free 23 rfl) (by decide +kernel) (vP 0)) (ej_is (T := .list) (by decide) (c.free 18 rfl) (c.free 23 rfl) (by decide +kernel) (vP 1))) (wj_or1 (tj_ne (hu64 hr) (ej_is (T := .tuple) (by decide) (c.free 18 rfl) (c.free 24 rfl) (by decide +kernel) (vP 0)) (ej_is (T := .tuple) (by decide) (c.free 18 rfl) (c.free 24 rfl) (by decide +kernel) (vP 1))))))
(bj_one (sj_ret ej_bl))
(bj_weak bj_nil))
(bj_cons (sj_if (Γ' := [sP, sP, none, none]) (tj_of_w (wj_or (tj_truth (ej_is (T := .list) (by decide) (c.free 18 rfl) (c.free 23 rfl) (by decide +kernel) (vP 0))) (wj_or1 (tj_truth (ej_is (T := .tuple) (by decide) (c.free 18 rfl) (c.free 24 rfl) (by decide +kernel) (vP 0))))))
(bj_one (sj_ret (ej_and (ej_eq (hu64 hr) (ej_len (c.free 11 rfl) (aj_cons (vP 0) aj_nil)) (ej_len (c.free 11 rfl) (aj_cons (vP 1) aj_nil))) (ej_one (ej_all rfl (c.free 26 rfl) (aj_cons (ej_lc (own := [("_law_a", 2), ("_law_b", 3)]) (T := .tp [2, 3]) (vr := []) (Γ' := [sP, sP, some (.bor [.prm, .prm]), some (.bor [.prm, .prm])]) rfl sc__law_same.nd (ij_zip (c.free 25 rfl) (aj_cons (vP 0) (aj_cons (vP 1) aj_nil))) (blkOk_by (N := ["_law_one", "_law_other", "_law_a", "_law_b"]) (sc := defScope (top 17)) (by decide +kernel)) (fun _ _ _ _ _ => (pg_tup rfl (pgs_cons (pg_name sc__law_same.nd rfl (.inl rfl)) (pgs_cons (pg_name sc__law_same.nd rfl (.inl rfl)) pgs_nil)))) (fun _ _ _ _ _ => ptj_nil) (fun _ _ _ _ _ => (ej_callC (rs := []) ih rfl (hr.mono (Nat.le_refl _)) takesN (aj_cons (vB 2 [.prm, .prm]) (aj_cons (vB 3 [.prm, .prm]) aj_nil)) dA)) dB) aj_nil))))))
(bj_weak bj_nil))
(bj_one (sj_ret (ej_and (ej_eq (hu64 hr) (ej_is (T := .bool) (by decide) (c.free 18 rfl) (c.free 27 rfl) (by decide +kernel) (vP 0)) (ej_is (T := .bool) (by decide) (c.free 18 rfl) (c.free 27 rfl) (by decide +kernel) (vP 1))) (ej_one (ej_eq (hu64 hr) (vP 0) (vP 1))))))))
theorem c__law_same (c : FazT fa fn cs K mg base) : Fnc P w K mg base "_law_same" 23 2 [] .T d__law_same := cN__law_same c 22
theorem sc__law_take : FnScope ["_law_bag_here", "_law_many", "_law_digit", "_law_primes", "_law_step", "_law_base", "_law_here"] ["_law_bag_here", "_law_many"] (defScope (top 13)) := dK
theorem c__law_take (c : FazT fa fn cs K mg base) : Fnc P w K mg base "_law_take" 1 2 [0] .T d__law_take :=
 fnc_of c.toFax 9 9 (Γ' := ctxIo 7 [0]) rfl rfl sc__law_take rfl rfl (by decide) (by decide) (by decide) (fun _ _ _ _ _ _ us hl => match us, hl with | [_, _], _ => rfl) fun cdv A outer s H E hr =>
 (bj_cons (sj_if (Γ' := [sO, sP, none, none, none, none, none]) (tj_gt (ej_ix (vO 0) ej_int) ej_int)
(bj_cons (sj_weak (Γ2 := [sO, sP, sO, none, none, none, none]) (sj_set (i := 2) sc__law_take.nd rfl (ej_mod (ej_ix (vO 0) ej_int) (vP 1))))
(bj_cons (sj_setix (r := 0) (pv 0) (ej_div (ej_ix (vO 0) ej_int) (vP 1)) ej_int)
(bj_one (sj_ret (ej_flat (vO 2))))))
(bj_weak bj_nil))
(bj_cons (sj_weak (Γ2 := [sO, sP, none, sO, none, none, none]) (sj_set (i := 3) sc__law_take.nd rfl (ej_tup (aj_cons ej_int (aj_cons ej_int (aj_cons ej_int (aj_cons ej_int (aj_cons ej_int (aj_cons ej_int (aj_cons ej_int (aj_cons ej_int aj_nil)))))))))))
(bj_cons (sj_setix (r := 0) (pv 0) (ej_add (ej_ix (vO 0) ej_int) ej_int) ej_int)
(bj_cons (sj_weak (Γ2 := [sO, sP, none, sO, sO, none, none]) (sj_set (i := 4) sc__law_take.nd rfl (ej_flat (ej_ix (vO 0) ej_int))))
(bj_cons (sj_weak (Γ2 := [sO, sP, none, sO, sO, sO, none]) (sj_set (i := 5) sc__law_take.nd rfl (ej_add (ej_mul (ej_add (ej_ix (vO 0) ej_int) ej_int) (ej_add (ej_mul ej_int (vO 4)) ej_int)) (ej_mul (ej_mul ej_int (vO 4)) (vO 4)))))
(bj_cons (sj_weak (Γ2 := [sO, sP, none, sO, sO, sO, sO]) (sj_set (i := 6) sc__law_take.nd rfl (ej_mod (ej_pow (vO 5) ej_int) (ej_ix (vO 3) (ej_mod (vO 4) ej_int)))))
(bj_one (sj_ret (ej_mod (ej_div (ej_mod (ej_mul (vO 6) (ej_add (ej_div (vO 6) ej_int) ej_int)) (ej_ix (vO 3) (ej_mod (ej_add (vO 4) ej_int) ej_int))) ej_int) (vP 1))))))))))
theorem sc_law : FnScope ["_law_script", "_law_at", "_law_bag_here", "_law_turn", "_law_n", "_law_degree", "_law_most", "_law_due", "_law_told"] ["_law_script"] (defScope (top 19)) := dK
theorem l_law (c : Faz fa fn cs K mg) (it : IsTab K (clM mg) (He.cT K (lamD, none)).2) {f : Addr} (hm : mg "law" = some (.ref f)) : ∃ fd : FuncData, (∀ (s : Shared) (u : Value), BindsTo s fd ⟨[u], []⟩ [("_law_script", u)]) ∧ ∀ base : Heap, LamX.TabB base mg (He.cT K (lamD, none)).1 (He.cT K (lamD, none)).2 → FnOk P w K mg base (L2N.CX P w) 26 f fd ["_law_script"] (spD K (clM mg) 1 [] [] .T d_law) :=
 law_ofT (B := fun base => LamX.TabB base mg (He.cT K (lamD, none)).1 (He.cT K (lamD, none)).2) c.toFax 10 10 (Γ' := ctxIo 9 []) hm rfl rfl sc_law rfl (by decide) (by decide) (fun _ _ _ _ _ _ us hl => match us, hl with | [_], _ => rfl) fun base tbb cdv A outer s H E hr =>
 have c : FazT fa fn cs K mg base := { toFaz := c, tb := tbb, it := it }
 (bj_cons (sj_pre (Γ1 := [sP, none, none, none, none, none, none, none, none]) (sj_for (T := .nm 1) (Γ' := [sP, none, none, none, none, none, none, none, none]) passes_c rfl (ij_range1 (c.free 14 rfl) (aj_cons (ej_max2 rfl (c.free 29 rfl) (aj_cons ej_int (aj_cons (ej_min2 rfl (c.free 28 rfl) (aj_cons ej_int (aj_cons (ej_len (c.free 11 rfl) (aj_cons (vP 0) aj_nil)) aj_nil))) aj_nil))) aj_nil)) (pg_name sc_law.nd rfl (.inl rfl))
(bj_weak (bj_cons (sj_weak (Γ2 := [sP, sN, sO, none, none, none, none, none, none]) (sj_set (i := 2) sc_law.nd rfl (ej_callC (rs := []) (c__law_bag c) rfl (hr.mono (by decide)) takes_c (aj_cons (vP 0) (aj_cons (vN 1) aj_nil)) dA)))
(bj_one (sj_pre (Γ1 := [sP, sN, sO, none, none, none, none, none, none]) (sj_for (T := .nm 3) (Γ' := [sP, sN, sO, none, none, none, none, none, none]) passes_c rfl (ij_range1 (c.free 14 rfl) (aj_cons ej_int aj_nil)) (pg_name sc_law.nd rfl (.inl rfl))
(bj_weak (bj_cons (sj_weak (Γ2 := [sP, sN, sO, sN, sO, sO, none, none, none]) (sj_par (i := 4) (j := 5) rfl sc_law.nd rfl rfl (aj_cons (ej_add ej_int (ej_callC (rs := [2]) (c__law_take c) rfl (hr.mono (by decide)) takes_c (aj_slot (r := 2) rfl (pv 2) (aj_cons ej_int aj_nil)) dA)) (aj_cons (ej_add ej_int (ej_callC (rs := [2]) (c__law_take c) rfl (hr.mono (by decide)) takes_c (aj_slot (r := 2) rfl (pv 2) (aj_cons ej_int aj_nil)) dA)) aj_nil))))
(bj_cons (sj_if (Γ' := [sP, sN, sO, sN, sO, some (.bor [.slt 5]), none, none, none]) (tj_eq (hu64 hr) (ej_callC (rs := [2]) (c__law_take c) rfl (hr.mono (by decide)) takes_c (aj_slot (r := 2) rfl (pv 2) (aj_cons ej_int aj_nil)) dA) ej_int)
(bj_weak (bj_cons (sj_weak (Γ2 := [sP, sN, sO, sN, sO, sN, sN, none, none]) (sj_unp (T := .tp [5, 6]) (ej_bor (R := []) (ej_ix (ej_lst (aj_cons (ej_tup (aj_cons ej_int (aj_cons ej_int aj_nil))) (aj_cons (ej_tup (aj_cons ej_int (aj_cons ej_int aj_nil))) (aj_cons (ej_tup (aj_cons ej_int (aj_cons ej_int aj_nil))) aj_nil)))) (ej_callC (rs := [2]) (c__law_take c) rfl (hr.mono (by decide)) takes_c (aj_slot (r := 2) rfl (pv 2) (aj_cons ej_int aj_nil)) dA))) (pg_tup rfl (pgs_cons (pg_name sc_law.nd rfl (.inl rfl)) (pgs_cons (pg_name sc_law.nd rfl (.inl rfl)) pgs_nil)))))
(bj_one (sj_weak (Γ2 := [sP, sN, sO, sN, sO, sN, sN, none, none]) (sj_set (i := 4) sc_law.nd rfl (ej_add ej_int (ej_callC (rs := [2]) (c__law_take c) rfl (hr.mono (by decide)) takes_c (aj_slot (r := 2) rfl (pv 2) (aj_cons (vN 6) aj_nil)) dA)))))))
(bj_weak bj_nil))
(bj_cons (sj_weak (Γ2 := [sP, sN, sO, sN, sO, some (.bor [.slt 5]), none, sO, none]) (sj_set (i := 7) sc_law.nd rfl (ej_tup (aj_cons ej_bl (aj_cons ej_bl (aj_cons ej_bl (aj_cons ej_bl aj_nil)))))))
(bj_cons (sj_if (Γ' := [sP, sN, sO, sN, sO, some (.bor [.slt 5]), none, sO, none]) (tj_le (ej_callC (rs := []) (c__law_count c) rfl (hr.mono (by decide)) takes_c (aj_cons (vO 4) (aj_cons (vB 5 [.slt 5]) aj_nil)) dA) ej_int)
(bj_weak (bj_one (sj_weak (Γ2 := [sP, sN, sO, sN, sO, some (.bor [.slt 5]), none, sO, none]) (sj_set (i := 7) sc_law.nd rfl (ej_callC (rs := []) (c__law_products c) rfl (hr.mono (by decide)) takes_c (aj_cons (vO 4) (aj_cons (vB 5 [.slt 5]) aj_nil)) dA)))))
(bj_weak bj_nil))
(bj_cons (sj_weak (Γ2 := [sP, sN, sO, sN, sO, some (.bor [.slt 5]), none, sO, sO]) (sj_set (i := 8) sc_law.nd rfl (ej_callC (rs := []) (c__law_said c) rfl (hr.mono (by decide)) takes_c (aj_cons (vO 4) (aj_cons (vB 5 [.slt 5]) aj_nil)) dA)))
(bj_cons (sj_if (Γ' := [sP, sN, sO, sN, sO, some (.bor [.slt 5]), none, sO, sO]) (tj_not (tj_truth (ej_callC (rs := []) (c__law_same c) rfl (hr.mono (by decide)) takes_c (aj_cons (vO 8) (aj_cons (vO 7) aj_nil)) dA)))
(bj_one (sj_ret ej_bl))
(bj_weak bj_nil))
(bj_cons (sj_if (Γ' := [sP, sN, sO, sN, sO, some (.bor [.slt 5]), none, sO, sO]) (tj_truth (ej_is (T := .list) (by decide) (c.free 18 rfl) (c.free 23 rfl) (by decide +kernel) (vO 8)))
(bj_weak (bj_one (sj_expr (ej_append (r := 8) (pv 8) (aj_cons ej_non aj_nil)))))
(bj_weak bj_nil))
(bj_one (sj_if (Γ' := [sP, sN, sO, sN, sO, some (.bor [.slt 5]), none, sO, sO]) (tj_not (tj_truth (ej_callC (rs := []) (c__law_same c) rfl (hr.mono (by decide)) takes_c (aj_cons (ej_callC (rs := []) (c__law_said c) rfl (hr.mono (by decide)) takes_c (aj_cons (vO 4) (aj_cons (vB 5 [.slt 5]) aj_nil)) dA) (aj_cons (vO 7) aj_nil)) dA)))
(bj_one (sj_ret ej_bl))
(bj_weak bj_nil))))))))))))))))))
(bj_one (sj_ret ej_bl)))
end Law
namespace Law
open PySem PySem.Spec PySem.SeqAt PyProof.Rows L2 Ow
end Law
open PySem PySem.W PySem.Calls PyProof.Rows
theorem PySem.Challenge.cw_rolldiscs_k31_products_in_order_holds : PySem.Challenge.rw_rolldiscs_k31_products_in_order.Holds := by
 w_on; o_law
 refine HandSHeadRun.head_any (r := Law.R) (q := view Law.R.prog [19]) (H := Law.hk) (ob := Law.ob) (M := 15000) (loose := Law.loose) (d := HandSHeadRun.topDef Law.R.prog 19) (kwd := []) Law.ob_eq
  (by kernel_rfl) (fun s => by kernel_rfl) Law.run (by kernel_rfl) (by kernel_rfl) (by kernel_rfl) (by rfl) (by first | assumption | decide +kernel) (by decide +kernel) ⟨rfl, rfl, rfl, rfl, rfl, by decide +kernel⟩ ?hw ?hc
 case hw => w_witness2
 case hc =>
  refine Ow.walk_owT (l := PySem.Challenge.rw_rolldiscs_k31_products_in_order) (n := 63) (k := 26) (x := "_law_script") (Fd := Law.d_law) rfl (by decide) (by kernel_rfl) ⟨rfl, by decide, by decide⟩ ?F Law.law_holds
  intro w mg fa h Y G hmg0
  obtain ⟨K, KX, c⟩ := Y
  have hmg : mg ("law" : PySem.Str) = some (.ref fa) := by
   have e : (HandSHeadRun.topDef Law.R.prog 19).name = ("law" : PySem.Str) := by kernel_rfl
   rw [← e]
   exact hmg0
  have c0 := Ow.faz_of KX G ⟨c.t, c.more, nofun, nofun, nofun⟩
  have hd := c.hd (Ow.lamD, none) List.mem_cons_self
  have it := Ow.isTab_of c0.toFax 2 2 rfl rfl hd
  obtain ⟨fd, h1, h2⟩ := Law.l_law (P := Law.R.prog) (w := w) c0 it hmg
  exact ⟨K, fd, _, _, KX, c.empty _ List.mem_cons_self, c.out _ List.mem_cons_self, PySem.W.codeHd_of_K KX hd, it, h1, fun base _ _ => h2 base⟩
