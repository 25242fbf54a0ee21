import PyProof.Rows.All
import Wide.All
import OpenK.AllK
import Wide.FinOn
import KE.KStateDown
import HandS.ForMost
import HandS.Words
import HandS.WordsExc
import HandS.Defaults
import HandS.Deep
import HandS.TupLe
import HandS.TupAny
import HandS.TupMul
import HandS.Wide
import HandS.Text
import HandS.IsInst
import HandS.SortInts
import HandS.SortKw
import HandS.Exc
import HandS.ExcOwn
import HandS.ExcInit
import HandS.ExcField
import HandS.TryMany
import HandS.HotCalls
import HandS.ExcCtx
import HandS.Style
import HandS.Flow
import HandS.ExcIs
import KE.KExcIs
import HandS.Conv
import HandS.Strs
import HandS.SetFor
import HandS.TupSets
import HandS.StrMore
import KE.SortKeyHeap
import KE.DataMinKey
import HandS.Lambda
import HandS.Rev
import HandS.HeadHook1
import HandS.HeadHook2
import HandS.Codes
import HandS.Head0
import HandS.Head1
import HandS.Head2
import HandS.HeadEnd
import HandS.HeadHook3
import HandS.HeadHook4
import HandS.EndTab
import PySem.Challenge.RW_parcelbank_k25_bookings_taken_in_turn
set_option Elab.async false
set_option linter.all false
set_option maxRecDepth 100000
set_option maxHeartbeats 4000000
namespace Gn
open PySem PySem.Spec PyProof.Rows L2

abbrev D := PyData
abbrev St := L2.St

/-! ### heaps -/
/-- what stands at a stays there; a table of codes may grow -/
def KeepO (H' : Hp) (a : Addr) : HO → Prop
  | .tbl _ => ∃ ps, H' a = some (.tbl ps)
  | o => H' a = some o
theorem KeepO.of {H' : Hp} {a : Addr} {o : HO} (h : H' a = some o) : KeepO H' a o := by
  cases o <;> first | exact h | exact ⟨_, h⟩
theorem KeepO.some {H' : Hp} {a : Addr} {o : HO} (h : KeepO H' a o) : ∃ o', H' a = Option.some o' := by
  cases o <;> first | exact ⟨_, h⟩ | exact h.elim fun ps e => ⟨_, e⟩
theorem KeepO.map {H H' : Hp} {a : Addr} {o : HO} (h : KeepO H a o) (k : ∀ u, H a = Option.some u → H' a = Option.some u) : KeepO H' a o := by
  cases o <;> first | exact k _ h | exact h.elim fun ps e => ⟨_, k _ e⟩
theorem KeepO.map2 {H H' : Hp} {a : Addr} {o : HO} (h : KeepO H a o) (k : ∀ u, H a = Option.some u → KeepO H' a u) : KeepO H' a o := by
  cases o <;> first | exact k _ h | exact h.elim fun ps e => (k (.tbl ps) e : KeepO H' a (.tbl ps))
theorem KeepO.eq {H H' : Hp} {a : Addr} {o : HO} (h : KeepO H a o) (k : H' a = H a) : KeepO H' a o := h.map fun u e => by rw [k]; exact e
def Sub (H H' : Hp) : Prop := ∀ a o, H a = some o → KeepO H' a o
theorem Sub.of {H H' : Hp} (h : ∀ a o, H a = some o → H' a = some o) : Sub H H' := fun a o e => KeepO.of (h a o e)
theorem Sub.refl (H : Hp) : Sub H H := fun _ _ h => KeepO.of h
theorem Sub.trans {A B C : Hp} (h : Sub A B) (k : Sub B C) : Sub A C := fun a o e => (h a o e).map2 fun u e2 => k a u e2
/-- the tables of codes of the program: where they stand, the names of the codes in them -/
class Tbls where
  L : List (Addr × Str)
section
variable [Tbls]
abbrev TabsH (H : Hp) : Prop := LamX.Tabs Tbls.L H
/-- .. of whole heaps: the tables stay in order -/
structure Ext (H H' : Hp) : Prop where
  sub : Sub H H'
  tab : TabsH H → TabsH H'
instance {H H' : Hp} : CoeFun (Ext H H') fun _ => ∀ a o, H a = some o → KeepO H' a o := ⟨fun s => s.sub⟩
instance {H H' : Hp} : Coe (Ext H H') (Sub H H') := ⟨fun s => s.sub⟩
theorem Ext.of {H H' : Hp} (h : ∀ a o, H a = some o → H' a = some o) : Ext H H' := ⟨Sub.of h, fun t => t.ext h⟩
theorem Ext.refl (H : Hp) : Ext H H := ⟨Sub.refl H, fun h => h⟩
theorem Ext.trans {A B C : Hp} (h : Ext A B) (k : Ext B C) : Ext A C := ⟨h.sub.trans k.sub, fun t => k.tab (h.tab t)⟩
end
def hide (H : Hp) (hid : List Addr) : Hp := fun a => if a ∈ hid then none else H a
theorem hide_nil (H : Hp) : hide H [] = H := by funext a; simp [hide]
theorem hide_in {H : Hp} {hid : List Addr} {a : Addr} (h : a ∈ hid) : hide H hid a = none := by simp [hide, h]
theorem hide_out {H : Hp} {hid : List Addr} {a : Addr} (h : a ∉ hid) : hide H hid a = H a := by simp [hide, h]
theorem hide_some {H : Hp} {hid : List Addr} {a : Addr} {o : HO} (h : hide H hid a = some o) : a ∉ hid ∧ H a = some o := by
  by_cases e : a ∈ hid
  · rw [hide_in e] at h; cases h
  · rw [hide_out e] at h; exact ⟨e, h⟩
theorem hide_sub (H : Hp) (hid : List Addr) : Sub (hide H hid) H := fun a o h => KeepO.of (hide_some h).2
/-- more of the heap, the hidden ones among the hidden ones -/
theorem hide_mono {H H' : Hp} {hid hid' : List Addr} (h : ∀ a o, a ∉ hid → H a = some o → KeepO H' a o ∧ a ∉ hid') : Sub (hide H hid) (hide H' hid') := fun a o e => by
  obtain ⟨n, e⟩ := hide_some e
  obtain ⟨e', n'⟩ := h a o n e
  exact e'.eq (hide_out n')
theorem hide_less {H : Hp} {hid hid' : List Addr} (h : ∀ a ∈ hid', a ∈ hid) : Sub (hide H hid) (hide H hid') := hide_mono fun a o n e => ⟨KeepO.of e, fun z => n (h a z)⟩

/-! ### data in a heap -/
/-- a text that may stand: not too long, code points -/
def StrOk (x : Str) : Prop := x.length ≤ sizeLine ∧ ∀ c ∈ x.cps.toList, c < 0x110000
theorem StrOk.ok {x : Str} (h : StrOk x) : PyData.strOk x = true := by
  show x.cps.all _ = true
  rw [Array.all_eq_true_iff_forall_mem]
  intro c hc
  exact decide_eq_true (h.2 c (by simpa using hc))
/-! no dict stands within -/
mutual
def nd : D → Bool
  | .none | .bool _ | .int _ | .str _ => true
  | .list ds => nds ds
  | .tuple ds => nds ds
  | .dict _ => false
def nds : List D → Bool
  | [] => true
  | d :: ds => nd d && nds ds
end
mutual
inductive Rep (K : PySem.W.Frag) (H : Hp) : D → V → Prop
  | non : Rep K H .none .non
  | bl (b : Bool) : Rep K H (.bool b) (.bl b)
  | int (i : Int) : Rep K H (.int i) (.int i)
  | str (x : Str) : StrOk x → Rep K H (.str x) (.str x)
  | lst {a : Addr} {vs : List V} {ds : List D} : SqL K H a vs → Reps K H ds vs → Rep K H (.list ds) (.ref a)
  | tup {a : Addr} {vs : List V} {ds : List D} : SqT K H a vs → Reps K H ds vs → Rep K H (.tuple ds) (.ref a)
  | dct {a : Addr} : H a = some (.dK []) → Rep K H (.dict []) (.ref a)
inductive Reps (K : PySem.W.Frag) (H : Hp) : List D → List V → Prop
  | nil : Reps K H [] []
  | cons {d : D} {ds : List D} {v : V} {vs : List V} : Rep K H d v → Reps K H ds vs → Reps K H (d :: ds) (v :: vs)
end
theorem sqL_sub {K : PySem.W.Frag} {H H' : Hp} {a : Addr} {xs : List V} (s : Sub H H') (h : SqL K H a xs) : SqL K H' a xs := by
  rcases h with (h | ⟨o, h⟩) | h
  · exact .inl (.inl (s a _ h))
  · exact .inl (.inr ⟨o, s a _ h⟩)
  · exact .inr h
theorem sqT_sub {K : PySem.W.Frag} {H H' : Hp} {a : Addr} {xs : List V} (s : Sub H H') (h : SqT K H a xs) : SqT K H' a xs := by
  rcases h with (h | ⟨o, h⟩) | h
  · exact .inl (.inl (s a _ h))
  · exact .inl (.inr ⟨o, s a _ h⟩)
  · exact .inr h
mutual
theorem Rep.sub {K : PySem.W.Frag} {H H' : Hp} (s : Sub H H') : ∀ {d : D} {v : V}, Rep K H d v → Rep K H' d v
  | _, _, .non => .non
  | _, _, .bl b => .bl b
  | _, _, .int i => .int i
  | _, _, .str x h => .str x h
  | _, _, .lst h r => .lst (sqL_sub s h) (Reps.sub s r)
  | _, _, .tup h r => .tup (sqT_sub s h) (Reps.sub s r)
  | _, _, .dct h => .dct (s _ _ h)
theorem Reps.sub {K : PySem.W.Frag} {H H' : Hp} (s : Sub H H') : ∀ {ds : List D} {vs : List V}, Reps K H ds vs → Reps K H' ds vs
  | _, _, .nil => .nil
  | _, _, .cons h r => .cons (Rep.sub s h) (Reps.sub s r)
end
section
variable {K : PySem.W.Frag} {H H' : Hp}
theorem Reps.length : ∀ {ds : List D} {vs : List V}, Reps K H ds vs → vs.length = ds.length
  | _, _, .nil => rfl
  | _, _, .cons _ r => by simp [Reps.length r]
theorem Reps.get : ∀ {ds : List D} {vs : List V} {i : Nat} {d : D}, Reps K H ds vs → ds[i]? = some d → ∃ v, vs[i]? = some v ∧ Rep K H d v
  | _, _, _, _, .nil, e => by simp at e
  | _, _, 0, _, .cons h _, e => by simp at e; subst e; exact ⟨_, rfl, h⟩
  | _, _, i + 1, _, .cons _ r, e => by simpa using Reps.get (i := i) r (by simpa using e)
theorem Reps.getV : ∀ {ds : List D} {vs : List V} {i : Nat} {v : V}, Reps K H ds vs → vs[i]? = some v → ∃ d, ds[i]? = some d ∧ Rep K H d v
  | _, _, _, _, .nil, e => by simp at e
  | _, _, 0, _, .cons h _, e => by simp at e; subst e; exact ⟨_, rfl, h⟩
  | _, _, i + 1, _, .cons _ r, e => by simpa using Reps.getV (i := i) r (by simpa using e)
theorem Reps.append : ∀ {ds es : List D} {vs ws : List V}, Reps K H ds vs → Reps K H es ws → Reps K H (ds ++ es) (vs ++ ws)
  | _, _, _, _, .nil, s => s
  | _, _, _, _, .cons h r, s => .cons h (Reps.append r s)
theorem Reps.take : ∀ {ds : List D} {vs : List V} (n : Nat), Reps K H ds vs → Reps K H (ds.take n) (vs.take n)
  | _, _, 0, _ => by simpa using Reps.nil
  | _, _, _ + 1, .nil => by simpa using Reps.nil
  | _, _, n + 1, .cons h r => by simpa using Reps.cons h (Reps.take n r)
theorem Reps.drop : ∀ {ds : List D} {vs : List V} (n : Nat), Reps K H ds vs → Reps K H (ds.drop n) (vs.drop n)
  | _, _, 0, r => by simpa using r
  | _, _, _ + 1, .nil => by simpa using Reps.nil
  | _, _, n + 1, .cons _ r => by simpa using Reps.drop n r
theorem Reps.reverse : ∀ {ds : List D} {vs : List V}, Reps K H ds vs → Reps K H ds.reverse vs.reverse
  | _, _, .nil => .nil
  | _, _, .cons h r => by
    rw [List.reverse_cons, List.reverse_cons]
    exact (Reps.reverse r).append (.cons h .nil)
theorem Reps.ints : ∀ {ns : List Int} {vs : List V}, Reps K H (ns.map PyData.int) vs → vs = ns.map V.int
  | [], _, .nil => rfl
  | n :: ns, _, .cons h r => by
    cases h
    rw [Reps.ints r]
    rfl
theorem Reps.of_ints : ∀ (ns : List Int), Reps K H (ns.map PyData.int) (ns.map V.int)
  | [] => .nil
  | n :: ns => .cons (.int n) (Reps.of_ints ns)
theorem Reps.bls : ∀ {ns : List Bool} {vs : List V}, Reps K H (ns.map PyData.bool) vs → vs = ns.map V.bl
  | [], _, .nil => rfl
  | n :: ns, _, .cons h r => by
    cases h
    rw [Reps.bls r]
    rfl
theorem Reps.strs : ∀ {ns : List Str} {vs : List V}, Reps K H (ns.map PyData.str) vs → vs = ns.map V.str
  | [], _, .nil => rfl
  | n :: ns, _, .cons h r => by
    cases h
    rw [Reps.strs r]
    rfl
theorem Reps.of_strs : ∀ (ns : List Str), (∀ x ∈ ns, StrOk x) → Reps K H (ns.map PyData.str) (ns.map V.str)
  | [], _ => .nil
  | n :: ns, h => .cons (.str n (h n (by simp))) (Reps.of_strs ns fun x hx => h x (by simp [hx]))
end
mutual
theorem Rep.dp {K : PySem.W.Frag} {H : Hp} : ∀ {d : D} {v : V}, Rep K H d v → nd d = true → Dp K H v d
  | _, _, .non, _ => .non
  | _, _, .bl b, _ => .bl b
  | _, _, .int i, _ => .int i
  | _, _, .str x _, _ => .str x
  | _, _, .lst h r, n => .lst h (Reps.dp r n)
  | _, _, .tup h r, n => .tup h (Reps.dp r n)
  | _, _, .dct _, n => nomatch n
theorem Reps.dp {K : PySem.W.Frag} {H : Hp} : ∀ {ds : List D} {vs : List V}, Reps K H ds vs → nds ds = true → DpAll K H vs ds
  | _, _, .nil, _ => .nil
  | _, _, .cons h r, n => by
    have n2 := Bool.and_eq_true_iff.mp (show (nd _ && nds _) = true from n)
    exact .cons (Rep.dp h n2.1) (Reps.dp r n2.2)
end
mutual
theorem Rep.canLay {K : PySem.W.Frag} {H : Hp} : ∀ {d : D} {v : V}, Rep K H d v → nd d = true → d.canLay0 = true
  | _, _, .non, _ => rfl
  | _, _, .bl b, _ => rfl
  | _, _, .int i, _ => rfl
  | _, _, .str x h, _ => by
    exact h.ok
  | _, _, .lst h r, n => by
    show PyData.canLayAll0 _ = true
    exact Reps.canLay r n
  | _, _, .tup h r, n => by
    show PyData.canLayAll0 _ = true
    exact Reps.canLay r n
  | _, _, .dct _, n => nomatch n
theorem Reps.canLay {K : PySem.W.Frag} {H : Hp} : ∀ {ds : List D} {vs : List V}, Reps K H ds vs → nds ds = true → PyData.canLayAll0 ds = true
  | _, _, .nil, _ => rfl
  | _, _, .cons h r, n => by
    have n2 := Bool.and_eq_true_iff.mp (show (nd _ && nds _) = true from n)
    show (PyData.canLay0 _ && PyData.canLayAll0 _) = true
    rw [Rep.canLay h n2.1, Reps.canLay r n2.2]
    rfl
end
-- no list within 
mutual
def flat : D → Bool
  | .none | .bool _ | .int _ | .str _ => true
  | .list _ => false
  | .tuple ds => flats ds
  | .dict _ => false
def flats : List D → Bool
  | [] => true
  | d :: ds => flat d && flats ds
end
def Tups (H H' : Hp) : Prop := (∀ a xs, H a = some (.tup xs) → H' a = some (.tup xs)) ∧ ∀ a o u, H a = some (.frz o u) → H' a = some (.frz o u)
mutual
theorem Rep.flatT {K : PySem.W.Frag} {H H' : Hp} (s : Tups H H') : ∀ {d : D} {v : V}, flat d = true → Rep K H d v → Rep K H' d v
  | _, _, _, .non => .non
  | _, _, _, .bl b => .bl b
  | _, _, _, .int i => .int i
  | _, _, _, .str x h => .str x h
  | _, _, e, .lst h r => by cases e
  | _, _, e, .dct h => by cases e
  | _, _, e, .tup h r => by
    refine .tup ?_ (Reps.flatT s e r)
    rcases h with (h | ⟨o, h⟩) | h
    · exact .inl (.inl (s.1 _ _ h))
    · exact .inl (.inr ⟨o, s.2 _ _ _ h⟩)
    · exact .inr h
theorem Reps.flatT {K : PySem.W.Frag} {H H' : Hp} (s : Tups H H') : ∀ {ds : List D} {vs : List V}, flats ds = true → Reps K H ds vs → Reps K H' ds vs
  | _, _, _, .nil => .nil
  | _, _, e, .cons h r => by
    have e2 := Bool.and_eq_true_iff.mp (show (flat _ && flats _) = true from e)
    exact .cons (Rep.flatT s e2.1 h) (Reps.flatT s e2.2 r)
end

/-! ### owned trees -/
inductive T where
  | fz (d : D)
  | lst (ts : List T)
  | tup (ts : List T)
mutual
def T.d : T → D
  | .fz d => d
  | .lst ts => .list (T.ds ts)
  | .tup ts => .tuple (T.ds ts)
def T.ds : List T → List D
  | [] => []
  | t :: ts => t.d :: T.ds ts
end
theorem T.ds_map : ∀ ts : List T, T.ds ts = ts.map T.d
  | [] => rfl
  | t :: ts => by rw [T.ds, T.ds_map ts]; rfl
-- every frozen leaf is flat 
mutual
def T.lf : T → Bool
  | .fz d => flat d
  | .lst ts => T.lfs ts
  | .tup ts => T.lfs ts
def T.lfs : List T → Bool
  | [] => true
  | t :: ts => t.lf && T.lfs ts
end
theorem T.lfs_all : ∀ ts : List T, T.lfs ts = ts.all T.lf
  | [] => rfl
  | t :: ts => by rw [T.lfs, T.lfs_all ts]; rfl
mutual
/-- t lies at v; fp: the addresses of its own lists; hid: what is hidden from the frozen leaves -/
inductive Own (K : PySem.W.Frag) (H : Hp) (hid : List Addr) : T → V → List Addr → Prop
  | fz {d : D} {v : V} : Rep K (hide H hid) d v → Own K H hid (.fz d) v []
  | lst {a : Addr} {vs : List V} {ts : List T} {fp : List Addr} : H a = some (.lst vs) → a ∉ fp → Owns K H hid ts vs fp → Own K H hid (.lst ts) (.ref a) (a :: fp)
  | tup {a : Addr} {vs : List V} {ts : List T} {fp : List Addr} : H a = some (.tup vs) → Owns K H hid ts vs fp → Own K H hid (.tup ts) (.ref a) fp
inductive Owns (K : PySem.W.Frag) (H : Hp) (hid : List Addr) : List T → List V → List Addr → Prop
  | nil : Owns K H hid [] [] []
  | cons {t : T} {ts : List T} {v : V} {vs : List V} {fp fq : List Addr} : Own K H hid t v fp → Owns K H hid ts vs fq → (∀ a ∈ fp, a ∉ fq) → Owns K H hid (t :: ts) (v :: vs) (fp ++ fq)
end
/-- what may be owned: what can change -/
def MutO : HO → Bool
  | .lst _ | .dK _ | .dT _ | .set _ _ | .ins _ _ _ => true
  | _ => false
/-- the hidden ones can change -/
def HidOk (H : Hp) (hid : List Addr) : Prop := ∀ a ∈ hid, ∃ o, H a = some o ∧ MutO o = true
theorem HidOk.app {H : Hp} {l m : List Addr} (h : HidOk H l) (k : HidOk H m) : HidOk H (l ++ m) := fun a ha => (List.mem_append.mp ha).elim (h a) (k a)
theorem HidOk.sub {H H' : Hp} {l : List Addr} (h : HidOk H l) (s : Sub H H') : HidOk H' l := fun a ha => by
  obtain ⟨o, e, m⟩ := h a ha
  refine ⟨o, ?_, m⟩
  have := s a _ e
  cases o <;> first | exact this | cases m
theorem HidOk.notup {H : Hp} {l : List Addr} (h : HidOk H l) {a : Addr} {xs : List V} (e : H a = some (.tup xs)) : a ∉ l := fun z => by
  obtain ⟨o, e2, m⟩ := h a z
  rw [e] at e2
  cases e2
  cases m
theorem HidOk.nofrz {H : Hp} {l : List Addr} (h : HidOk H l) {a : Addr} {ob : Obj} {u : HO} (e : H a = some (.frz ob u)) : a ∉ l := fun z => by
  obtain ⟨o, e2, m⟩ := h a z
  rw [e] at e2
  cases e2
  cases m
theorem HidOk.nil {H : Hp} : HidOk H [] := fun _ h => nomatch h
/-- what a new state keeps -/
structure Keep (H H' : Hp) (hid hid' fp : List Addr) : Prop where
  vis : Sub (hide H hid) (hide H' hid')
  own : ∀ a ∈ fp, ∀ o, H a = some o → KeepO H' a o
  tup : ∀ a xs, H a = some (.tup xs) → H' a = some (.tup xs)
theorem Keep.less {H H' : Hp} {hid hid' fp fq : List Addr} (k : Keep H H' hid hid' fp) (h : ∀ a ∈ fq, a ∈ fp) : Keep H H' hid hid' fq := ⟨k.vis, fun a ha => k.own a (h a ha), k.tup⟩
mutual
theorem Own.keep {K : PySem.W.Frag} {H H' : Hp} {hid hid' : List Addr} : ∀ {t : T} {v : V} {fp : List Addr}, Own K H hid t v fp → Keep H H' hid hid' fp → Own K H' hid' t v fp
  | _, _, _, .fz r, k => .fz (r.sub k.vis)
  | _, _, _, .lst h n o, k => .lst (k.own _ (by simp) _ h) n (Owns.keep o (k.less fun a ha => by simp [ha]))
  | _, _, _, .tup h o, k => .tup (k.tup _ _ h) (Owns.keep o k)
theorem Owns.keep {K : PySem.W.Frag} {H H' : Hp} {hid hid' : List Addr} : ∀ {ts : List T} {vs : List V} {fp : List Addr}, Owns K H hid ts vs fp → Keep H H' hid hid' fp → Owns K H' hid' ts vs fp
  | _, _, _, .nil, _ => .nil
  | _, _, _, .cons h r n, k => .cons (Own.keep h (k.less fun a ha => by simp [ha])) (Owns.keep r (k.less fun a ha => by simp [ha])) n
end
mutual
theorem Own.lists {K : PySem.W.Frag} {H : Hp} {hid : List Addr} : ∀ {t : T} {v : V} {fp : List Addr}, Own K H hid t v fp → HidOk H fp
  | _, _, _, .fz _ => HidOk.nil
  | _, _, _, .lst h n o => fun a ha => (List.mem_cons.mp ha).elim (fun e => by subst e; exact ⟨_, h, rfl⟩) fun z => Owns.lists o a z
  | _, _, _, .tup _ o => Owns.lists o
theorem Owns.lists {K : PySem.W.Frag} {H : Hp} {hid : List Addr} : ∀ {ts : List T} {vs : List V} {fp : List Addr}, Owns K H hid ts vs fp → HidOk H fp
  | _, _, _, .nil => HidOk.nil
  | _, _, _, .cons h r _ => HidOk.app (Own.lists h) (Owns.lists r)
end
-- an owned tree read as frozen data: its lists are shown
mutual
theorem Own.rep {K : PySem.W.Frag} {H : Hp} {hid hid' : List Addr} (s : ∀ a ∈ hid', a ∈ hid) (ho : HidOk H hid') : ∀ {t : T} {v : V} {fp : List Addr}, Own K H hid t v fp → (∀ a ∈ fp, a ∉ hid') → Rep K (hide H hid') t.d v
  | _, _, _, .fz r, _ => r.sub (hide_less s)
  | _, _, _, .lst h n o, k => .lst (SqL.of (by rw [hide_out (k _ (by simp))]; exact h)) (Owns.rep s ho o fun a ha => k a (by simp [ha]))
  | _, _, _, .tup h o, k => .tup (SqT.of (by
      rw [hide_out (ho.notup h)]
      exact h)) (Owns.rep s ho o k)
theorem Owns.rep {K : PySem.W.Frag} {H : Hp} {hid hid' : List Addr} (s : ∀ a ∈ hid', a ∈ hid) (ho : HidOk H hid') : ∀ {ts : List T} {vs : List V} {fp : List Addr}, Owns K H hid ts vs fp → (∀ a ∈ fp, a ∉ hid') → Reps K (hide H hid') (T.ds ts) vs
  | _, _, _, .nil, _ => .nil
  | _, _, _, .cons h r _, k => .cons (Own.rep s ho h fun a ha => k a (by simp [ha])) (Owns.rep s ho r fun a ha => k a (by simp [ha]))
end
theorem tups_hide {H : Hp} {hid hid' : List Addr} (ho : HidOk H hid') : Tups (hide H hid) (hide H hid') := by
  refine ⟨fun a xs h => ?_, fun a o u h => ?_⟩
  · obtain ⟨_, h⟩ := hide_some h
    rw [hide_out (ho.notup h)]
    exact h
  · obtain ⟨_, h⟩ := hide_some h
    rw [hide_out (ho.nofrz h)]
    exact h
-- flat leaves need no lists
mutual
theorem Own.lf {K : PySem.W.Frag} {H : Hp} {hid hid' : List Addr} (ho : HidOk H hid') : ∀ {t : T} {v : V} {fp : List Addr}, t.lf = true → Own K H hid t v fp → Own K H hid' t v fp
  | _, _, _, e, .fz r => .fz (r.flatT (tups_hide ho) e)
  | _, _, _, e, .lst h n o => .lst h n (Owns.lf ho e o)
  | _, _, _, e, .tup h o => .tup h (Owns.lf ho e o)
theorem Owns.lf {K : PySem.W.Frag} {H : Hp} {hid hid' : List Addr} (ho : HidOk H hid') : ∀ {ts : List T} {vs : List V} {fp : List Addr}, T.lfs ts = true → Owns K H hid ts vs fp → Owns K H hid' ts vs fp
  | _, _, _, _, .nil => .nil
  | _, _, _, e, .cons h r n => by
    have e2 := Bool.and_eq_true_iff.mp (show (T.lf _ && T.lfs _) = true from e)
    exact .cons (Own.lf ho e2.1 h) (Owns.lf ho e2.2 r) n
end
theorem Owns.length {K : PySem.W.Frag} {H : Hp} {hid : List Addr} : ∀ {ts : List T} {vs : List V} {fp : List Addr}, Owns K H hid ts vs fp → vs.length = ts.length
  | _, _, _, .nil => rfl
  | _, _, _, .cons _ r _ => by simp [Owns.length r]
theorem Owns.append {K : PySem.W.Frag} {H : Hp} {hid : List Addr} : ∀ {ts us : List T} {vs ws : List V} {fp fq : List Addr}, Owns K H hid ts vs fp → Owns K H hid us ws fq → (∀ a ∈ fp, a ∉ fq) → Owns K H hid (ts ++ us) (vs ++ ws) (fp ++ fq)
  | _, _, _, _, _, _, .nil, s, _ => s
  | _, _, _, _, _, _, .cons (fp := f1) (fq := f2) h r n, s, k => by
    rw [List.append_assoc]
    refine .cons h (Owns.append r s fun a ha => k a (by simp [ha])) fun a ha hb => ?_
    rcases List.mem_append.mp hb with z | z
    · exact n a ha z
    · exact k a (by simp [ha]) z
theorem Owns.of_reps {K : PySem.W.Frag} {H : Hp} {hid : List Addr} : ∀ {ds : List D} {vs : List V}, Reps K (hide H hid) ds vs → Owns K H hid (ds.map T.fz) vs []
  | _, _, .nil => .nil
  | _, _, .cons h r => .cons (.fz h) (Owns.of_reps r) (fun _ h => nomatch h)
end Gn

set_option Elab.async false
set_option linter.all false
set_option maxRecDepth 100000
set_option maxHeartbeats 4000000
namespace Gn
open PySem PySem.Spec PyProof.Rows L2

/-! ### results -/
inductive R (α : Type) where
  | ok (a : α)
  | ex (c : Nat) (fs : List D)
  | no
def R.bind {α β : Type} : R α → (α → R β) → R β
  | .ok a, f => f a
  | .ex c fs, _ => .ex c fs
  | .no, _ => .no
instance : Monad R where
  pure := .ok
  bind := R.bind
@[simp] theorem R.ok_bind {α β : Type} (a : α) (f : α → R β) : (R.ok a >>= f) = f a := rfl
@[simp] theorem R.ex_bind {α β : Type} (c : Nat) (fs : List D) (f : α → R β) : ((R.ex c fs : R α) >>= f) = .ex c fs := rfl
@[simp] theorem R.no_bind {α β : Type} (f : α → R β) : ((R.no : R α) >>= f) = .no := rfl
@[simp] theorem R.pure_ok {α : Type} (a : α) : (pure a : R α) = .ok a := rfl
def R.of {α : Type} : Option α → R α
  | some a => .ok a
  | none => .no
@[simp] theorem R.of_some {α : Type} (a : α) : R.of (some a) = .ok a := rfl
@[simp] theorem R.of_none {α : Type} : R.of (none : Option α) = .no := rfl

/-- an exception may not leave from within -/
def R.shut {α : Type} : R α → R α
  | .ok a => .ok a
  | _ => .no
/-! ### operators, by data -/
inductive BinO where
  | add | sub | mul | fdiv | mod | pow | band | bor
  deriving DecidableEq
inductive CmpO where
  | eq | ne | lt | le | gt | ge | is | isn | isIn | notIn
  deriving DecidableEq
def mulOk (i j : Int) : Bool := (decide (-(2 ^ 64) < i) && decide (i < 2 ^ 64)) || (decide (-(2 ^ 64) < j) && decide (j < 2 ^ 64))
def fzs (ds : List D) : List T := ds.map T.fz
def lstD (ds : List D) : R T := if ds.length ≤ sizeLine then .ok (.lst (fzs ds)) else .no
def tupD (ds : List D) : R T := if ds.length ≤ sizeLine then .ok (.fz (.tuple ds)) else .no
def strD (x : Str) : R T := if x.length ≤ sizeLine then .ok (.fz (.str x)) else .no
def binD : BinO → D → D → R T
  | .add, .int i, .int j => .ok (.fz (.int (i + j)))
  | .add, .str a, .str b => strD (a ++ b)
  | .add, .list ds, .list es => lstD (ds ++ es)
  | .add, .tuple ds, .tuple es => tupD (ds ++ es)
  | .sub, .int i, .int j => .ok (.fz (.int (i - j)))
  | .mul, .int i, .int j => if mulOk i j then .ok (.fz (.int (i * j))) else .no
  | .mul, .str a, .int n => if 2 ≤ n ∧ n ≤ 1000 ∧ 1 ≤ a.length ∧ a.length ≤ 1000 then .ok (.fz (.str ⟨(List.replicate n.toNat a.cps.toList).flatten.toArray⟩)) else .no
  | .fdiv, .int i, .int j => if 0 < j ∧ j < 1267650600228229401496703205376 then .ok (.fz (.int (i / j))) else .no
  | .mod, .int i, .int j => if 0 < j then .ok (.fz (.int (i % j))) else .no
  | .pow, .int i, .int j => if 0 ≤ j ∧ j ≤ 1000000 ∧ i.natAbs < 2 ^ 64 then .ok (.fz (.int (i ^ j.toNat))) else .no
  | .band, .int i, .int j => .ok (.fz (.int (Builtin.bitAnd i j)))
  | .bor, .int i, .int j => .ok (.fz (.int (Builtin.bitOr i j)))
  | _, _, _ => .no
/-- with a list just made (a list times an int) -/
def binT (o : BinO) (t : T) (e : D) : R T := match o, t, e with
  | .mul, .lst ts, .int k => if 0 ≤ k ∧ k < 2 ^ 40 ∧ ts.length * k.toNat ≤ sizeLine then .ok (.lst (fzs (List.replicate k.toNat (T.ds ts)).flatten)) else .no
  | o, t, e => binD o t.d e
/-- not a list, not a tuple -/
def scalar : D → Bool
  | .none | .bool _ | .int _ | .str _ => true
  | _ => false
def bl (b : Bool) : R T := .ok (.fz (.bool b))
def isInD : D → D → R Bool
  | d, .list ds => if (d.depth ≤ 64 ∧ PyData.depthAll ds < 64) ∧ nd d = true ∧ nds ds = true then .ok (ds.any fun z => PyData.eqv z d) else .no
  | d, .tuple ds => if scalar d && ds.all scalar then .ok (ds.any fun z => PyData.eqv z d) else .no
  | .str x, .str y => if x.length = 1 then .ok (y.cps.toList.any fun c => x.cps.toList == [c]) else .no
  | _, _ => .no
def isD : D → D → R Bool
  | d, .none => .ok (match d with | .none => true | _ => false)
  | .bool a, .bool b => .ok (a == b)
  | _, _ => .no
def eqD (d e : D) : R Bool := if (d.depth ≤ 64 ∧ e.depth ≤ 64) ∧ nd d = true ∧ nd e = true then .ok (PyData.eqv d e) else .no
def intsOf : List D → Option (List Int)
  | [] => some []
  | .int i :: ds => (intsOf ds).map (i :: ·)
  | _ :: _ => none
@[simp] theorem intsOf_map : ∀ ns : List Int, intsOf (ns.map PyData.int) = some ns
  | [] => rfl
  | n :: ns => by show (intsOf (ns.map PyData.int)).map (n :: ·) = _; rw [intsOf_map ns]; rfl
theorem intsOf_some : ∀ {ds : List D} {ns : List Int}, intsOf ds = some ns → ds = ns.map PyData.int
  | [], ns, h => by cases h; rfl
  | .int i :: ds, ns, h => by
    have h : (intsOf ds).map (i :: ·) = some ns := h
    cases e : intsOf ds with
    | none => rw [e] at h; cases h
    | some ms =>
      rw [e] at h
      cases h
      rw [intsOf_some e]
      rfl
  | .none :: _, _, h => by cases h
  | .bool _ :: _, _, h => by cases h
  | .str _ :: _, _, h => by cases h
  | .list _ :: _, _, h => by cases h
  | .tuple _ :: _, _, h => by cases h
  | .dict _ :: _, _, h => by cases h
def ltD : D → D → R Bool
  | .int i, .int j => .ok (decide (i < j))
  | .str x, .str y => .ok (decide (x.cps.toList < y.cps.toList))
  | .tuple ds, .tuple es => match intsOf ds, intsOf es with
    | some ns, some ms => .ok (HT.lexLt ns ms)
    | _, _ => .no
  | _, _ => .no
def gtD : D → D → R Bool
  | .int i, .int j => .ok (decide (j < i))
  | .str x, .str y => .ok (decide (y.cps.toList < x.cps.toList))
  | _, _ => .no
def leD : D → D → R Bool
  | .int i, .int j => .ok (decide (i ≤ j))
  | _, _ => .no
def cmpD : CmpO → D → D → R Bool
  | .eq, d, e => eqD d e
  | .ne, d, e => do return !(← eqD d e)
  | .lt, d, e => ltD d e
  | .le, d, e => leD d e
  | .gt, d, e => gtD d e
  | .ge, d, e => leD e d
  | .is, d, e => isD d e
  | .isn, d, e => do return !(← isD d e)
  | .isIn, d, e => isInD d e
  | .notIn, d, e => do return !(← isInD d e)
/-- truth -/
def truD : D → R Bool
  | .none => .ok false
  | .bool b => .ok b
  | .int i => .ok (i != 0)
  | .str x => .ok (x.length != 0)
  | .list ds => .ok (!ds.isEmpty)
  | .tuple ds => .ok (!ds.isEmpty)
  | .dict _ => .no
def idxD : D → D → R T
  | .list ds, .int i => do return .fz (← R.of (atI ds i))
  | .tuple ds, .int i => do return .fz (← R.of (atI ds i))
  | .str x, .int i => do return .fz (.str ⟨#[← R.of (atI x.cps.toList i)]⟩)
  | _, _ => .no
def cutL {α : Type} (xs : List α) (lo hi : Option Int) : List α := (xs.drop (HT.sIx xs.length 0 lo)).take (HT.sIx xs.length xs.length hi - HT.sIx xs.length 0 lo)
def sliD : D → Option Int → Option Int → R T
  | .list ds, lo, hi => .ok (.lst (fzs (cutL ds lo hi)))
  | .tuple ds, lo, hi => if ¬ (HT.sIx ds.length 0 lo = 0 ∧ HT.sIx ds.length ds.length hi = ds.length) then .ok (.fz (.tuple (cutL ds lo hi))) else .no
  | .str x, lo, hi => .ok (.fz (.str ⟨(cutL x.cps.toList lo hi).toArray⟩))
  | _, _, _ => .no
/-- sorting ints -/
def insI (n : Int) : List Int → List Int
  | [] => [n]
  | m :: ms => if n ≤ m then n :: m :: ms else m :: insI n ms
def sortI : List Int → List Int
  | [] => []
  | n :: ns => insI n (sortI ns)
inductive Ty where
  | int | str | bool | list | tuple
  deriving DecidableEq
def isTy : Ty → D → Bool
  | .int, .int _ => true
  | .int, .bool _ => true
  | .bool, .bool _ => true
  | .str, .str _ => true
  | .list, .list _ => true
  | .tuple, .tuple _ => true
  | _, _ => false
/-- data that can be sorted, by Python's order -/
def sdOk (ds : List D) : Bool := (ds.all fun d => ds.all fun e => PySem.W.alike d e) && ((ds.all fun d => match d with | .tuple (_ :: _) => true | _ => false) || ds.all fun d => match d with | .none => false | .tuple _ => false | _ => true) && (decide (ds.length ≤ sizeLine) && ds.all fun d => decide (d.depth ≤ 50) && nd d)
def sortD (ds : List D) : List D := ds.mergeSort (PySem.W.dataLe false id)
-- no list and no dict within
mutual
def nl : D → Bool
  | .none | .bool _ | .int _ | .str _ => true
  | .tuple ds => nls ds
  | .list _ => false
  | .dict _ => false
def nls : List D → Bool
  | [] => true
  | d :: ds => nl d && nls ds
end
/-- what a sort key tells: a lambda's body, without calls -/
inductive Ky where
  | v (i : Nat)
  | n (k : Int)
  | ix (a b : Ky)
  | pr (a b : Ky)
def ixK : D → D → Option D
  | .list ds, .int i => if 0 ≤ i then ds[i.toNat]? else none
  | .tuple ds, .int i => if 0 ≤ i then ds[i.toNat]? else none
  | _, _ => none
def Ky.ev (ρ : List (Option T)) : Ky → Option D
  | .v i => match ρ[i]? with
    | some (some t) => some t.d
    | _ => none
  | .n k => some (.int k)
  | .ix a b => match a.ev ρ, b.ev ρ with
    | some x, some y => ixK x y
    | _, _ => none
  | .pr a b => match a.ev ρ, b.ev ρ with
    | some x, some y => some (.tuple [x, y])
    | _, _ => none
def kyD (f : D → Option D) (d : D) : D := (f d).getD .none
def srtKD (f : D → Option D) (ds : List D) : R T :=
  if (ds.all fun d => (f d).isSome && nl (kyD f d)) = true ∧ sdOk (ds.map (kyD f)) = true then .ok (.lst (fzs (ds.mergeSort (PySem.W.dataLe false (kyD f))))) else .no
def srtlD (f : D → Option D) : D → R T
  | .list ds => srtKD f ds
  | _ => .no
def maxKC (f : D → Option D) (d : D) (ds : List D) : R T :=
  if ((d :: ds).all fun d => (f d).isSome && nl (kyD f d)) = true ∧ sdOk ((d :: ds).map (kyD f)) = true then .ok (.fz (ds.foldl (fun a y => if PySem.W.dataLt (kyD f a) (kyD f y) = true then y else a) d)) else .no
def maxKD (f : D → Option D) : D → R T
  | .list (d :: ds) => maxKC f d ds
  | _ => .no
def srtrD (f : D → Option D) : D → R T
  | .int n => if 0 ≤ n ∧ n ≤ 16777216 then srtKD f ((List.range n.toNat).map fun (k : Nat) => .int (k : Int)) else .no
  | _ => .no
def maxDD : List D → R T
  | d :: ds => if sdOk (d :: ds) then .ok (.fz (PySem.W.maxD d ds)) else .no
  | [] => .no
inductive BI where
  | maxD | sortedD | len | int | abs | str | list | tuple | sorted | sortedR | sum | all | any | max2 | min2 | max1 | min1
  deriving DecidableEq
def boolsOf : List D → Option (List Bool)
  | [] => some []
  | .bool i :: ds => (boolsOf ds).map (i :: ·)
  | _ :: _ => none
@[simp] theorem boolsOf_map : ∀ ns : List Bool, boolsOf (ns.map PyData.bool) = some ns
  | [] => rfl
  | n :: ns => by show (boolsOf (ns.map PyData.bool)).map (n :: ·) = _; rw [boolsOf_map ns]; rfl
theorem boolsOf_some : ∀ {ds : List D} {ns : List Bool}, boolsOf ds = some ns → ds = ns.map PyData.bool
  | [], ns, h => by cases h; rfl
  | .bool i :: ds, ns, h => by
    have h : (boolsOf ds).map (i :: ·) = some ns := h
    cases e : boolsOf ds with
    | none => rw [e] at h; cases h
    | some ms =>
      rw [e] at h
      cases h
      rw [boolsOf_some e]
      rfl
  | .none :: _, _, h => by cases h
  | .int _ :: _, _, h => by cases h
  | .str _ :: _, _, h => by cases h
  | .list _ :: _, _, h => by cases h
  | .tuple _ :: _, _, h => by cases h
  | .dict _ :: _, _, h => by cases h
def maxL : List Int → Option Int
  | [] => none
  | n :: ns => some (ns.foldl (fun a b => if b > a then b else a) n)
def minL : List Int → Option Int
  | [] => none
  | n :: ns => some (ns.foldl (fun a b => if b < a then b else a) n)
def strOf (i : Int) : Str := Str.ofString (toString i)
def biD (calm : Bool) : BI → List D → R T
  | .len, [.list ds] => .ok (.fz (.int ds.length))
  | .len, [.tuple ds] => .ok (.fz (.int ds.length))
  | .len, [.str x] => .ok (.fz (.int x.length))
  | .int, [.int i] => .ok (.fz (.int i))
  | .int, [.bool b] => .ok (.fz (.int (if b then 1 else 0)))
  | .int, [.str x] => if x.length ≤ 640 then do return .fz (.int (← R.of (PySem.intText? x))) else .no
  | .abs, [.int i] => .ok (.fz (.int (if i < 0 then -i else i)))
  | .str, [.int i] => if i.natAbs.log2 < 1920 then .ok (.fz (.str (strOf i))) else .no
  | .str, [.none] => .ok (.fz (.str "None"))
  | .str, [.bool b] => .ok (.fz (.str (if b then "True" else "False")))
  | .str, [.str x] => .ok (.fz (.str x))
  | .list, [.list ds] => .ok (.lst (fzs ds))
  | .list, [.tuple ds] => .ok (.lst (fzs ds))
  | .tuple, [.list ds] => .ok (.fz (.tuple ds))
  | .tuple, [.tuple ds] => .ok (.fz (.tuple ds))
  | .sorted, [.list ds] => do
    let ns ← R.of (intsOf ds)
    return .lst (fzs ((sortI ns).map .int))
  | .sorted, [.tuple ds] => do
    let ns ← R.of (intsOf ds)
    return .lst (fzs ((sortI ns).map .int))
  | .maxD, [.list ds] => if calm then maxDD ds else .no
  | .sortedD, [.list ds] => if sdOk ds then .ok (.lst (fzs (sortD ds))) else .no
  | .sortedR, [.list ds] => do
    let ns ← R.of (intsOf ds)
    return .lst (fzs ((sortI ns).reverse.map .int))
  | .sortedR, [.tuple ds] => do
    let ns ← R.of (intsOf ds)
    return .lst (fzs ((sortI ns).reverse.map .int))
  | .sum, [.list ds] => if calm then do return .fz (.int (← R.of (intsOf ds)).sum) else .no
  | .all, [.list ds] => if calm then do return .fz (.bool ((← R.of (boolsOf ds)).all id)) else .no
  | .any, [.list ds] => if calm then do return .fz (.bool ((← R.of (boolsOf ds)).any id)) else .no
  | .max2, [.int i, .int j] => if calm then .ok (.fz (.int (if j > i then j else i))) else .no
  | .min2, [.int i, .int j] => if calm then .ok (.fz (.int (if j < i then j else i))) else .no
  | .max1, [.list ds] => if calm then do return .fz (.int (← R.of (maxL (← R.of (intsOf ds))))) else .no
  | .min1, [.list ds] => if calm then do return .fz (.int (← R.of (minL (← R.of (intsOf ds))))) else .no
  | _, _ => .no

def strsOf : List D → Option (List Str)
  | [] => some []
  | .str i :: ds => (strsOf ds).map (i :: ·)
  | _ :: _ => none
@[simp] theorem strsOf_map : ∀ ns : List Str, strsOf (ns.map PyData.str) = some ns
  | [] => rfl
  | n :: ns => by show (strsOf (ns.map PyData.str)).map (n :: ·) = _; rw [strsOf_map ns]; rfl
theorem strsOf_some : ∀ {ds : List D} {ns : List Str}, strsOf ds = some ns → ds = ns.map PyData.str
  | [], ns, h => by cases h; rfl
  | .str i :: ds, ns, h => by
    have h : (strsOf ds).map (i :: ·) = some ns := h
    cases e : strsOf ds with
    | none => rw [e] at h; cases h
    | some ms =>
      rw [e] at h
      cases h
      rw [strsOf_some e]
      rfl
  | .none :: _, _, h => by cases h
  | .int _ :: _, _, h => by cases h
  | .bool _ :: _, _, h => by cases h
  | .list _ :: _, _, h => by cases h
  | .tuple _ :: _, _, h => by cases h
  | .dict _ :: _, _, h => by cases h
/-- methods of texts and lists that only tell -/
inductive MT where
  | join | split | find | starts | index | count
  deriving DecidableEq
def mkS (l : List Nat) : Str := ⟨l.toArray⟩
/-- the type of what has the method -/
def mtTy : MT → D → Bool
  | .index, .list _ => true
  | .count, .list _ => true
  | .index, _ => false
  | .count, _ => false
  | _, .str _ => true
  | _, _ => false
def joinD (s : Str) (ds : List D) : R T := do
  let xs ← R.of (strsOf ds)
  if (xs.map (·.length)).sum + xs.length * s.length ≤ 16777216 then .ok (.fz (.str (mkS (TL.joinL (TL.tl s) (xs.map TL.tl))))) else .no
def indexD (d : D) (ds : List D) : R T := if (d.depth ≤ 60 ∧ PyData.depthAll ds < 60) ∧ nd d = true ∧ nds ds = true then (match ds.findIdx? fun z => PyData.eqv z d with
  | some j => .ok (.fz (.int j))
  | none => .no) else .no
def mtD : MT → D → List D → R T
  | .join, .str s, [.list ds] => joinD s ds
  | .join, .str s, [.tuple ds] => joinD s ds
  | .split, .str a, [.str b] => if b.length = 1 ∧ (∀ c ∈ TL.tl b, c < 128) ∧ a.length + 2 ≤ sizeLine then .ok (.lst (fzs ((TL.spl (TL.tl b) 0 [] (TL.tl a)).map fun l => .str (mkS l)))) else .no
  | .find, .str a, [.str b] => .ok (.fz (.int (PySem.Txt.find a b)))
  | .starts, .str a, [.str b] => .ok (.fz (.bool (PySem.Txt.startswith a b)))
  | .index, .list ds, [d] => indexD d ds
  | .count, .list ds, [.int k] => do
    let ns ← R.of (intsOf ds)
    return .fz (.int (ns.count k))
  | _, _, _ => .no
def lrngD : D → R T
  | .int n => if -(2 ^ 62) ≤ n ∧ n ≤ 16777216 then .ok (.lst (fzs ((List.range n.toNat).map fun (k : Nat) => .int (k : Int)))) else .no
  | _ => .no
/-- the members, each once, ascending -/
def insU (n : Int) : List Int → List Int
  | [] => [n]
  | m :: ms => if n < m then n :: m :: ms else if n = m then m :: ms else m :: insU n ms
def setI : List Int → List Int
  | [] => []
  | n :: ns => insU n (setI ns)
def ssetL (ds : List D) : R T := do
  let ns ← R.of (intsOf ds)
  if ns.length < 64 then .ok (.lst (fzs ((setI ns).map .int))) else .no
def ssetD : D → R T
  | .list ds => ssetL ds
  | _ => .no
/-- texts, each once -/
def ddS (xs : List Str) : List Str := xs.foldl (fun acc x => if x ∈ acc then acc else acc ++ [x]) []
theorem ddS_snoc (xs : List Str) (x : Str) : ddS (xs ++ [x]) = if x ∈ ddS xs then ddS xs else ddS xs ++ [x] := by
  unfold ddS
  rw [List.foldl_append]
  rfl
theorem ddS_fold (x : Str) : ∀ (xs acc : List Str), x ∈ xs.foldl (fun acc x => if x ∈ acc then acc else acc ++ [x]) acc ↔ x ∈ acc ∨ x ∈ xs
  | [], acc => by simp
  | y :: xs, acc => by
    rw [List.foldl_cons, ddS_fold x xs]
    by_cases m : y ∈ acc
    · rw [if_pos m]
      constructor
      · rintro (h | h)
        · exact .inl h
        · exact .inr (List.mem_cons_of_mem _ h)
      · rintro (h | h)
        · exact .inl h
        · rcases List.mem_cons.mp h with rfl | h
          · exact .inl m
          · exact .inr h
    · rw [if_neg m, List.mem_append, List.mem_singleton, List.mem_cons, or_assoc]
theorem ddS_mem (x : Str) (xs : List Str) : x ∈ ddS xs ↔ x ∈ xs := by
  unfold ddS
  rw [ddS_fold]
  simp
theorem ddS_foldL : ∀ (xs acc : List Str), (xs.foldl (fun acc x => if x ∈ acc then acc else acc ++ [x]) acc).length ≤ acc.length + xs.length
  | [], acc => by simp
  | y :: xs, acc => by
    rw [List.foldl_cons]
    refine Nat.le_trans (ddS_foldL xs _) ?_
    split
    · rw [List.length_cons]
      omega
    · simp only [List.length_append, List.length_cons, List.length_nil]
      omega
theorem ddS_len (xs : List Str) : (ddS xs).length ≤ xs.length := by
  have := ddS_foldL xs []
  simpa [ddS] using this
theorem ddS_foldN : ∀ (xs acc : List Str), acc.Nodup → (xs.foldl (fun acc x => if x ∈ acc then acc else acc ++ [x]) acc).Nodup
  | [], acc, h => h
  | y :: xs, acc, h => by
    rw [List.foldl_cons]
    refine ddS_foldN xs _ ?_
    by_cases m : y ∈ acc
    · rw [if_pos m]
      exact h
    · rw [if_neg m]
      refine List.nodup_append.mpr ⟨h, by simp, fun a ha b hb e => ?_⟩
      rw [List.mem_singleton.mp hb] at e
      exact m (e ▸ ha)
theorem ddS_nodup (xs : List Str) : (ddS xs).Nodup := ddS_foldN xs [] (by simp)
/-- how many members -/
def lsetL (ds : List D) : R T :=
  match intsOf ds with
  | some ns => if ns.length < 4000 then .ok (.fz (.int ((setI ns).length : Int))) else .no
  | none => do
    let xs ← R.of (strsOf ds)
    if xs.length < 4000 then .ok (.fz (.int ((ddS xs).length : Int))) else .no
def lsetD : D → R T
  | .list ds => lsetL ds
  | _ => .no
def upperD : D → R T
  | .str x => if x.length ≤ 1000 ∧ (PySem.Txt.upper x).length ≤ sizeLine ∧ (PySem.Txt.upper x).cps.toList.all (fun c => decide (c < 0x110000)) = true then .ok (.fz (.str (PySem.Txt.upper x))) else .no
  | _ => .no
def rvD : D → R T
  | .list ds => .ok (.lst (fzs ds.reverse))
  | _ => .no
/-- what is walked: a list, a tuple, a text; a range -/
inductive IK where
  | seq | rng1 | rng2
  deriving DecidableEq
/-! ### the terms -/
inductive P where
  | cst (d : D)
  | var (i : Nat)
  | glob (j : Nat)
  | bin (o : BinO) (p q : P)
  | neg (p : P)
  | cmp (o : CmpO) (p q : P)
  | andv (p q : P)
  | orv (p q : P)
  | notv (p : P)
  | idx (p q : P)
  | sl (p : P) (lo hi : Option P)
  | lst (ps : List P)
  | tup (ps : List P)
  | comp (elt : P) (i : Nat) (k : IK) (its : List P) (cond : List P)
  | call (k : Nat) (ps : List P)
  | bi (b : BI) (ps : List P)
  | isi (p : P) (ty : Ty)
  | xfl (f : Str)
  | xis (k : Nat)
  | xcall (k : Nat)
  | cmp3 (o o' : CmpO) (p q r : P)
  | rv (p : P)
  | mt (m : MT) (p : P) (ps : List P)
  | lrng (p : P)
  | lrev (p : P)
  | srtl (p : P) (i : Nat) (q : Ky)
  | srtr (p : P) (i : Nat) (q : Ky)
  | maxk (p : P) (i : Nat) (q : Ky)
  | sset (p : P)
  | lset (p : P)
  | edct
  | hcall (k : Nat) (p : P)
  | upper (p : P)
abbrev Rho := List (Option T)
structure Gam where
  gl : List D
  fn : Nat → List T → R (T × List T)
  isub : Nat → Nat → Bool
  calm : Bool
  io : List Nat
  hx : Option (Nat × List D)
  cok : Nat → Bool
  xf : Nat → Str → Option Nat
  fx : Nat → Nat → List D → R T
  fh : Nat → D → R T
def isFz : T → Bool
  | .fz _ => true
  | _ => false
def mkTup (ts : List T) : T := if ts.all isFz then .fz (.tuple (T.ds ts)) else .tup ts
def rngD (lo hi : Int) : R (List D) := if -(2 ^ 62) ≤ lo ∧ lo < 2 ^ 62 ∧ -(2 ^ 62) ≤ hi ∧ hi < 2 ^ 62 then .ok ((List.range (hi - lo).toNat).map fun (k : Nat) => .int (lo + (k : Int))) else .no
def itemsD : D → R (List D)
  | .list ds => .ok ds
  | .tuple ds => .ok ds
  | .str x => .ok (x.cps.toList.map fun c => .str ⟨#[c]⟩)
  | _ => .no
def itemsK : IK → List T → R (List D)
  | .seq, [t] => itemsD t.d
  | .rng1, [t] => match t.d with
    | .int j => rngD 0 j
    | _ => .no
  | .rng2, [t, u] => match t.d, u.d with
    | .int i, .int j => rngD i j
    | _, _ => .no
  | _, _ => .no
def compL (f : D → R (Option T)) : List D → R (List T)
  | [] => .ok []
  | d :: ds => do
    let t ← f d
    let ts ← compL f ds
    match t with
    | some t => return t :: ts
    | none => return ts
def partD : D → R Int
  | .int i => .ok i
  | _ => .no
mutual
def P.ev (G : Gam) : P → Rho → R T
  | .cst d, _ => .ok (.fz d)
  | .var i, ρ => match ρ[i]? with
    | some (some t) => .ok (.fz t.d)
    | _ => .no
  | .glob j, _ => match G.gl[j]? with
    | some d => .ok (.fz d)
    | none => .no
  | .bin o p q, ρ => do
    let t ← p.ev G ρ
    let u ← q.ev G ρ
    binT o t u.d
  | .neg p, ρ => do
    let t ← p.ev G ρ
    match t.d with
    | .int i => .ok (.fz (.int (-i)))
    | _ => .no
  | .cmp o p q, ρ => do
    let t ← p.ev G ρ
    let u ← q.ev G ρ
    return .fz (.bool (← cmpD o t.d u.d))
  | .andv p q, ρ => do
    let t ← p.ev G ρ
    if ← truD t.d then q.ev G ρ else .ok (.fz t.d)
  | .orv p q, ρ => do
    let t ← p.ev G ρ
    if ← truD t.d then .ok (.fz t.d) else q.ev G ρ
  | .notv p, ρ => do
    let t ← p.ev G ρ
    return .fz (.bool (!(← truD t.d)))
  | .idx p q, ρ => do
    let t ← p.ev G ρ
    let u ← q.ev G ρ
    idxD t.d u.d
  | .sl p lo hi, ρ => do
    let t ← p.ev G ρ
    let l ← P.prt G lo ρ
    let h ← P.prt G hi ρ
    sliD t.d l h
  | .lst ps, ρ => do return .lst (← P.evs G ps ρ)
  | .tup ps, ρ => do return mkTup (← P.evs G ps ρ)
  | .comp elt i k its cond, ρ => if G.calm then do
      let ds ← itemsK k (← P.evs G its ρ)
      let ts ← compL (fun d => (do
        if ← P.tsts G cond (ρ.set i (some (.fz d))) then return some (← elt.ev G (ρ.set i (some (.fz d)))) else return none).shut) ds
      if ds.length ≤ sizeLine then .ok (.lst ts) else .no
    else .no
  | .call k ps, ρ => do
    let ts ← P.evs G ps ρ
    let r ← G.fn k (ts.map fun t => .fz t.d)
    return r.1
  | .cmp3 o o' p q r, ρ => do
    let t ← p.ev G ρ
    let u ← q.ev G ρ
    if ← cmpD o t.d u.d then (do
      let v ← r.ev G ρ
      return .fz (.bool (← cmpD o' u.d v.d))) else .ok (.fz (.bool false))
  | .rv p, ρ => do
    let t ← p.ev G ρ
    rvD t.d
  | .mt m p ps, ρ => do
    let t ← p.ev G ρ
    if mtTy m t.d then (do
      let ts ← P.evs G ps ρ
      mtD m t.d (T.ds ts)) else .no
  | .lrev p, ρ => do
    let t ← p.ev G ρ
    rvD t.d
  | .srtl p i q, ρ => do
    let t ← p.ev G ρ
    srtlD (fun d => q.ev (ρ.set i (some (.fz d)))) t.d
  | .maxk p i q, ρ => do
    let t ← p.ev G ρ
    maxKD (fun d => q.ev (ρ.set i (some (.fz d)))) t.d
  | .srtr p i q, ρ => do
    let t ← p.ev G ρ
    srtrD (fun d => q.ev (ρ.set i (some (.fz d)))) t.d
  | .lrng p, ρ => do
    let t ← p.ev G ρ
    lrngD t.d
  | .sset p, ρ => do
    let t ← p.ev G ρ
    ssetD t.d
  | .edct, _ => .ok (.fz (.dict []))
  | .lset p, ρ => do
    let t ← p.ev G ρ
    lsetD t.d
  | .hcall k p, ρ => match G.hx with
    | some _ => do
      let t ← p.ev G ρ
      (G.fh k t.d).shut
    | none => .no
  | .upper p, ρ => do
    let t ← p.ev G ρ
    upperD t.d
  | .xfl f, _ => match G.hx with
    | some (c, fs) => match G.xf c f with
      | some n => match fs[n]? with
        | some d => .ok (.fz d)
        | none => .no
      | none => .no
    | none => .no
  | .xis k, _ => match G.hx with
    | some (c, _) => .ok (.fz (.bool (G.isub c k)))
    | none => .no
  | .xcall k, _ => match G.hx with
    | some (c, fs) => (G.fx k c fs).shut
    | none => .no
  | .bi b ps, ρ => do
    let ts ← P.evs G ps ρ
    biD G.calm b (T.ds ts)
  | .isi p ty, ρ => do
    let t ← p.ev G ρ
    return .fz (.bool (isTy ty t.d))
def P.prt (G : Gam) : Option P → Rho → R (Option Int)
  | none, _ => .ok none
  | some p, ρ => do
    let t ← p.ev G ρ
    return some (← partD t.d)
def P.evs (G : Gam) : List P → Rho → R (List T)
  | [], _ => .ok []
  | p :: ps, ρ => do
    let t ← p.ev G ρ
    let ts ← P.evs G ps ρ
    return t :: ts
def P.tsts (G : Gam) : List P → Rho → R Bool
  | [], _ => .ok true
  | p :: ps, ρ => do
    let t ← p.ev G ρ
    if ← truD t.d then P.tsts G ps ρ else .ok false
end
def P.tst (G : Gam) (p : P) (ρ : Rho) : R Bool := do truD (← p.ev G ρ).d
end Gn

set_option Elab.async false
set_option linter.all false
set_option maxRecDepth 100000
set_option maxHeartbeats 4000000
namespace Gn
open PySem PySem.Spec PyProof.Rows L2
variable [Tbls]

/-- behind a reading: a new value t; hid: what is hidden from it -/
def Out (K : PySem.W.Frag) (H : Hp) (hid : List Addr) (t : T) (Q : VK) : Prop := ∀ v H' fp, Ext H H' → (∀ a ∈ fp, H a = none) → Own K H' (fp ++ hid) t v fp → Q v H'
def ROut (K : PySem.W.Frag) (H : Hp) (hid : List Addr) (r : R T) (Q : VK) : Prop := match r with
  | .ok t => Out K H hid t Q
  | _ => False
def BOut (H : Hp) (r : R Bool) (Q : VK) : Prop := match r with
  | .ok b => Q (.bl b) H
  | _ => False
section
variable {K : PySem.W.Frag} {H : Hp} {hid : List Addr} {Q : VK}
theorem Out.fz {d : D} {v : V} (h : Out K H hid (.fz d) Q) (r : Rep K (hide H hid) d v) : Q v H := h v H [] (Ext.refl H) (fun _ z => nomatch z) (.fz r)
theorem sub_upd {p : Addr} {o : HO} (h : H p = none) : Ext H (upd H p o) := Ext.of fun a u e => by
  rw [upd_ne (ne_of_none e h)]
  exact e
theorem HidOk.fresh (h : HidOk H hid) {p : Addr} (e : H p = none) : p ∉ hid := fun z => by
  obtain ⟨o, e2, _⟩ := h p z
  rw [e] at e2
  cases e2
theorem hide_upd {p : Addr} {o : HO} (h : H p = none) : Sub (hide H hid) (hide (upd H p o) hid) := hide_mono fun a u n e => ⟨sub_upd h a u e, n⟩
/-- a new list of frozen items -/
theorem Out.lst {ds : List D} {vs : List V} {p : Addr} (ho : HidOk H hid) (h : Out K H hid (.lst (fzs ds)) Q) (r : Reps K (hide H hid) ds vs) (hp : H p = none) : Q (.ref p) (upd H p (.lst vs)) := by
  refine h _ _ [p] (sub_upd hp) (fun a ha => by simpa using (show a = p by simpa using ha) ▸ hp) (.lst upd_same (by simp) (Owns.of_reps (r.sub (hide_mono fun a u n e => ⟨sub_upd hp a u e, fun z => ?_⟩))))
  rcases List.mem_append.mp z with z | z
  · exact ne_of_none e hp (by simpa using z)
  · exact n z
theorem Out.tup {ds : List D} {vs : List V} {p : Addr} (ho : HidOk H hid) (h : Out K H hid (.fz (.tuple ds)) Q) (r : Reps K (hide H hid) ds vs) (hp : H p = none) : Q (.ref p) (upd H p (.tup vs)) := by
  refine h _ _ [] (sub_upd hp) (fun _ z => nomatch z) (.fz (.tup (SqT.of (show hide (upd H p (.tup vs)) hid p = _ by rw [hide_out (ho.fresh hp)]; exact upd_same)) (r.sub (hide_upd hp))))
end

section
variable {X : Cx} {H : Hp} {hid : List Addr} {Q : VK}
theorem op_catS {pins : List (Addr × Obj)} {s : Shared} {σ : St} {H : Hp} {l b : Addr} {xs zs : List V} {Q : VK} (I : Inv X pins σ H s) (hl : SqL X.K H l xs) (hb : SqL X.K H b zs) (hz : xs.length + zs.length ≤ sizeLine)
    (q : ∀ p, H p = none → Q (.ref p) (upd H p (.lst (xs ++ zs)))) : wpAny (model X.prog X.w) X.A (binaryOp .Add (.ref l) (.ref b)) (EP X pins σ Q) X.xe s := by
  obtain ⟨its, r, ⟨⟨cls, dd, data, sl⟩, n, ho, hc, hdd, hd⟩, _⟩ := I.list hl
  obtain ⟨its2, r2, ⟨⟨cls2, dd2, data2, sl2⟩, n2, ho2, hc2, hdd2, hd2⟩, _⟩ := I.list hb
  simp only at hc hd hc2 hd2
  subst hc hd hc2 hd2
  have e : its.toArray ++ its2.toArray = (its ++ its2).toArray := by simp
  refine concat_meets ⟨_, ho, rfl⟩ ⟨_, ho2, rfl⟩ noFill_list_add seq_list_add PySem.F.slot_list_add PySem.F.entry_list_add (PySem.F.args_list_add_2 _ _) (list_addW l b its.toArray its2.toArray n n2 dd dd2 sl sl2 (by
    simp only [List.size_toArray]
    rw [← r.length, ← r2.length]
    exact hz)) ⟨ho, ho2, ?_⟩
  rw [e]
  exact ⟨.ref _, _, I.lnew (t' := s.toks) (r.append r2) (by rw [List.length_append]; exact hz), rfl, q _ I.fresh⟩
def BinO.op : BinO → Operator
  | .add => .Add
  | .sub => .Sub
  | .mul => .Mult
  | .fdiv => .FloorDiv
  | .mod => .Mod
  | .pow => .Pow
  | .band => .BitAnd
  | .bor => .BitOr
/-- two data, an answer -/
def rBin (K : PySem.W.Frag) (o : BinO) : R2 := fun x y H Q => ∃ hid d e, HidOk H hid ∧ Rep K (hide H hid) d x ∧ Rep K (hide H hid) e y ∧ ROut K H hid (binD o d e) Q
theorem strOk_append {a b : Str} (ha : StrOk a) (hb : StrOk b) (h : a.length + b.length ≤ sizeLine) : StrOk (a ++ b) := by
  have e : (a ++ b).cps = a.cps ++ b.cps := rfl
  refine ⟨?_, fun c hc => ?_⟩
  · show (a ++ b).cps.size ≤ sizeLine
    rw [e, Array.size_append]
    exact h
  · rw [e] at hc
    simp only [Array.toList_append, List.mem_append] at hc
    exact hc.elim (ha.2 c) (hb.2 c)
theorem rep_len {α : Type} (l : List α) : ∀ n : Nat, (List.replicate n l).flatten.length = n * l.length
  | 0 => by simp
  | n + 1 => by rw [List.replicate_succ, List.flatten_cons, List.length_append, rep_len l n, Nat.succ_mul, Nat.add_comm]
theorem rep_fold (b : List Nat) : ∀ (n : Nat) (acc : List Nat), (List.replicate n b.toArray).foldl (· ++ ·) acc.toArray = (acc ++ (List.replicate n b).flatten).toArray
  | 0, acc => by simp
  | n + 1, acc => by
    rw [List.replicate_succ, List.foldl_cons, List.replicate_succ, List.flatten_cons, List.append_toArray, rep_fold b n, List.append_assoc]
theorem strOk_rep {a : Str} {n : Int} (ha : StrOk a) (c : 2 ≤ n ∧ n ≤ 1000 ∧ 1 ≤ a.length ∧ a.length ≤ 1000) : StrOk ⟨(List.replicate n.toNat a.cps.toList).flatten.toArray⟩ := by
  refine ⟨?_, fun z hz => ?_⟩
  · show (List.replicate n.toNat a.cps.toList).flatten.toArray.size ≤ sizeLine
    rw [List.size_toArray, rep_len, Array.length_toList]
    have h1 : n.toNat ≤ 1000 := by omega
    have h2 : a.cps.size ≤ 1000 := c.2.2.2
    have := Nat.mul_le_mul h1 h2
    rw [sizeLine_eq]
    omega
  · have hz : z ∈ (List.replicate n.toNat a.cps.toList).flatten := by simpa using hz
    obtain ⟨l, h1, h2⟩ := List.mem_flatten.mp hz
    rw [(List.mem_replicate.mp h1).2] at h2
    exact ha.2 z h2
theorem op_strmul : OpR X (binaryOp .Mult) (fun x y H Q => ∃ a n, x = .str a ∧ y = .int n ∧ (2 ≤ n ∧ n ≤ 1000 ∧ 1 ≤ a.length ∧ a.length ≤ 1000) ∧ Q (.str ⟨(List.replicate n.toNat a.cps.toList).flatten.toArray⟩) H) := by
  intro pins s σ H x y v u Q I rx ry h
  obtain ⟨a, n, rfl, rfl, ⟨c1, c2, c3, c4⟩, q⟩ := h
  obtain ⟨t, rfl⟩ := rx
  obtain ⟨t', rfl⟩ := ry
  have h1 : ¬ n < 1 := by omega
  have h2 : ¬ (n == 1 || a.length == 0) = true := by
    have e1 : ¬ n = 1 := by omega
    have e2 : ¬ a.length = 0 := by omega
    simp [e1, e2]
  have e3 : (⟨(List.replicate n.toNat a.cps).foldl (· ++ ·) #[]⟩ : Str) = ⟨(List.replicate n.toNat a.cps.toList).flatten.toArray⟩ := by
    have := rep_fold a.cps.toList n.toNat []
    rw [List.nil_append] at this
    rw [← this]
  refine P.mul_str ?_ ?_ ?_ ?_
  · have e1 : ¬ n < -(2 ^ 63) := by omega
    have e2 : ¬ n ≥ 2 ^ 63 := by omega
    rw [decide_eq_false e1, decide_eq_false e2]; rfl
  · intro _ _
    have hq : (1000 : Int) ≤ (2 ^ 63 - 1) / n := (Int.le_ediv_iff_mul_le (by omega)).mpr (by omega)
    have : (a.length : Int) ≤ 1000 := by omega
    omega
  · intro _ _
    have h1 : n.toNat ≤ 1000 := by omega
    have := Nat.mul_le_mul c4 h1
    show decide (a.length * n.toNat > sizeLine) = false
    rw [sizeLine_eq]
    exact decide_eq_false (by omega)
  · rw [if_neg h1, if_neg h2, e3]
    exact ⟨by
      have : StrOk (⟨(List.replicate n.toNat a.cps.toList).flatten.toArray⟩ : Str) ∨ True := .inr trivial
      show (List.replicate n.toNat a.cps.toList).flatten.toArray.size ≤ sizeLine
      rw [List.size_toArray, rep_len, Array.length_toList]
      have h1 : n.toNat ≤ 1000 := by omega
      have h2 : a.cps.size ≤ 1000 := c4
      have := Nat.mul_le_mul h1 h2
      rw [sizeLine_eq]
      omega, ⟨.str _, H, I.tok _, ⟨_, rfl⟩, q⟩⟩
theorem op_bin (o : BinO) : OpR X (binaryOp o.op) (rBin X.K o) := by
  intro pins s σ H x y v u Q I rx ry ⟨hid, d, e, ho, hd, he, h⟩
  have key : ∀ {P : Prop}, ROut X.K H hid .no Q → P := fun z => z.elim
  cases hd with
  | int i =>
    cases he with
    | int j =>
      cases o with
      | add => exact op_add pins s σ H _ _ v u Q I rx ry ⟨i, j, rfl, rfl, Out.fz h (.int _)⟩
      | sub => exact op_sub pins s σ H _ _ v u Q I rx ry ⟨i, j, rfl, rfl, Out.fz h (.int _)⟩
      | mul =>
        by_cases c : mulOk i j = true
        · refine op_mul pins s σ H _ _ v u Q I rx ry ⟨i, j, rfl, rfl, ?_, ?_⟩
          · unfold mulOk at c
            simp only [Bool.or_eq_true, Bool.and_eq_true, decide_eq_true_eq] at c
            exact c
          · have h : ROut X.K H hid (if mulOk i j then .ok (.fz (.int (i * j))) else .no) Q := h
            rw [if_pos c] at h
            exact Out.fz h (.int _)
        · have h : ROut X.K H hid (if mulOk i j then .ok (.fz (.int (i * j))) else .no) Q := h
          rw [if_neg c] at h
          exact key h
      | fdiv =>
        have h : ROut X.K H hid (if 0 < j ∧ j < 1267650600228229401496703205376 then .ok (.fz (.int (i / j))) else .no) Q := h
        by_cases c : 0 < j ∧ j < 1267650600228229401496703205376
        · rw [if_pos c] at h
          exact op_fdivW pins s σ H _ _ v u Q I rx ry ⟨i, j, rfl, rfl, wide_div (b := 100) c.1 (by have := c.2; omega) (by decide) (by decide), Out.fz h (.int _)⟩
        · rw [if_neg c] at h
          exact key h
      | mod =>
        have h : ROut X.K H hid (if 0 < j then .ok (.fz (.int (i % j))) else .no) Q := h
        by_cases c : 0 < j
        · rw [if_pos c] at h
          exact op_mod pins s σ H _ _ v u Q I rx ry ⟨i, j, rfl, rfl, c, Out.fz h (.int _)⟩
        · rw [if_neg c] at h
          exact key h
      | pow =>
        have h : ROut X.K H hid (if 0 ≤ j ∧ j ≤ 1000000 ∧ i.natAbs < 2 ^ 64 then .ok (.fz (.int (i ^ j.toNat))) else .no) Q := h
        by_cases c : 0 ≤ j ∧ j ≤ 1000000 ∧ i.natAbs < 2 ^ 64
        · rw [if_pos c] at h
          exact op_pow pins s σ H _ _ v u Q I rx ry ⟨i, j, rfl, rfl, c, Out.fz h (.int _)⟩
        · rw [if_neg c] at h
          exact key h
      | band => exact op_and pins s σ H _ _ v u Q I rx ry ⟨i, j, rfl, rfl, Out.fz h (.int _)⟩
      | bor => exact op_or pins s σ H _ _ v u Q I rx ry ⟨i, j, rfl, rfl, Out.fz h (.int _)⟩
    | _ => cases o <;> exact key h
  | str a ha =>
    cases he with
    | str b hb =>
      cases o with
      | add =>
        have h : ROut X.K H hid (if (a ++ b).length ≤ sizeLine then .ok (.fz (.str (a ++ b))) else .no) Q := h
        have el : (a ++ b).length = a.length + b.length := by
          show (a ++ b).cps.size = _
          rw [show (a ++ b).cps = a.cps ++ b.cps from rfl, Array.size_append]
          rfl
        by_cases c : (a ++ b).length ≤ sizeLine
        · rw [if_pos c] at h
          rw [el] at c
          exact op_add_str pins s σ H _ _ v u Q I rx ry ⟨a, b, rfl, rfl, c, Out.fz h (.str _ (strOk_append ha hb c))⟩
        · rw [if_neg c] at h
          exact key h
      | _ => exact key h
    | int n =>
      cases o with
      | mul =>
        have h : ROut X.K H hid (if 2 ≤ n ∧ n ≤ 1000 ∧ 1 ≤ a.length ∧ a.length ≤ 1000 then .ok (.fz (.str ⟨(List.replicate n.toNat a.cps.toList).flatten.toArray⟩)) else .no) Q := h
        by_cases c : 2 ≤ n ∧ n ≤ 1000 ∧ 1 ≤ a.length ∧ a.length ≤ 1000
        · rw [if_pos c] at h
          exact op_strmul pins s σ H _ _ v u Q I rx ry ⟨a, n, rfl, rfl, c, Out.fz h (.str _ (strOk_rep ha c))⟩
        · rw [if_neg c] at h
          exact key h
      | _ => exact key h
    | _ => cases o <;> exact key h
  | lst ha ra =>
    rename_i al vs ds
    cases he with
    | lst hb rb =>
      rename_i bl ws es
      cases o with
      | add =>
        have h : ROut X.K H hid (if (ds ++ es).length ≤ sizeLine then .ok (.lst (fzs (ds ++ es))) else .no) Q := h
        by_cases c : (ds ++ es).length ≤ sizeLine
        · rw [if_pos c] at h
          cases rx
          cases ry
          refine op_catS I (sqL_sub (hide_sub _ _) ha) (sqL_sub (hide_sub _ _) hb) (by rw [ra.length, rb.length, ← List.length_append]; exact c) fun p hp => Out.lst ho h (ra.append rb) hp
        · rw [if_neg c] at h
          exact key h
      | _ => exact key h
    | _ => cases o <;> exact key h
  | tup ha ra =>
    rename_i al vs ds
    cases he with
    | tup hb rb =>
      rename_i bl ws es
      cases o with
      | add =>
        have h : ROut X.K H hid (if (ds ++ es).length ≤ sizeLine then .ok (.fz (.tuple (ds ++ es))) else .no) Q := h
        by_cases c : (ds ++ es).length ≤ sizeLine
        · rw [if_pos c] at h
          refine op_catA pins s σ H _ _ v u Q I rx ry ⟨al, bl, vs, ws, rfl, rfl, sqT_sub (hide_sub _ _) ha, sqT_sub (hide_sub _ _) hb, (by rw [ra.length, rb.length, ← List.length_append]; exact c), fun e => ?_, fun _ e => ?_, fun _ _ p hp => Out.tup ho h (ra.append rb) hp⟩
          · subst e
            cases ra
            exact Out.fz h (.tup hb rb)
          · subst e
            cases rb
            rw [List.append_nil] at h
            exact Out.fz h (.tup ha ra)
        · rw [if_neg c] at h
          exact key h
      | _ => exact key h
    | _ => cases o <;> exact key h
  | _ => cases he <;> cases o <;> exact key h

/-! ### comparisons -/
def CmpO.op : CmpO → CmpOp
  | .eq => .Eq
  | .ne => .NotEq
  | .lt => .Lt
  | .le => .LtE
  | .gt => .Gt
  | .ge => .GtE
  | .is => .Is
  | .isn => .IsNot
  | .isIn => .In
  | .notIn => .NotIn
def rCmpO (K : PySem.W.Frag) (o : CmpO) : R2 := fun x y H Q => ∃ hid d e, Rep K (hide H hid) d x ∧ Rep K (hide H hid) e y ∧ BOut H (cmpD o d e) Q
theorem flatV_of {K : PySem.W.Frag} {H : Hp} {d : D} {v : V} (r : Rep K H d v) (h : scalar d = true) : flatV v = true := by
  cases r <;> first | rfl | cases h
theorem eqV_of {K : PySem.W.Frag} {H : Hp} {d e : D} {v w : V} (r : Rep K H d v) (q : Rep K H e w) (h : scalar d = true) (k : scalar e = true) : eqV v w = PyData.eqv d e := by
  cases r <;> (first | (cases q <;> first | rfl | cases k) | cases h)
theorem all_flatV {K : PySem.W.Frag} {H : Hp} : ∀ {ds : List D} {vs : List V}, Reps K H ds vs → ds.all scalar = true → vs.all flatV = true
  | _, _, .nil, _ => rfl
  | _, _, .cons h r, e => by
    rw [List.all_cons, Bool.and_eq_true] at e
    rw [List.all_cons, flatV_of h e.1, all_flatV r e.2]
    rfl
theorem any_eqV {K : PySem.W.Frag} {H : Hp} {d : D} {v : V} (rd : Rep K H d v) (sd : scalar d = true) : ∀ {ds : List D} {vs : List V}, Reps K H ds vs → ds.all scalar = true → inV v vs = ds.any fun z => PyData.eqv z d
  | _, _, .nil, _ => rfl
  | _, _, .cons h r, e => by
    rw [List.all_cons, Bool.and_eq_true] at e
    show (eqV _ _ || inV v _) = _
    rw [eqV_of h rd e.1 sd, any_eqV rd sd r e.2, List.any_cons]
theorem shaped_of {K : PySem.W.Frag} {H : Hp} {d : D} {v : V} (r : Rep K H d v) (h : d.depth ≤ 64) (n : nd d = true) : SeqAt.shaped d = true := by
  unfold SeqAt.shaped
  rw [r.canLay n, decide_eq_true h]
  rfl
theorem one_sign {x : Str} (h : x.length = 1) : ∃ c, x = ⟨#[c]⟩ := by
  obtain ⟨cps⟩ := x
  obtain ⟨l⟩ := cps
  have h : l.length = 1 := h
  match l, h with
  | [c], _ => exact ⟨c, rfl⟩
theorem eqNot_of {r : R Bool} {H : Hp} {Q : VK} (h : BOut H (do return !(← r)) Q) : ∃ b, r = .ok b ∧ Q (.bl (!b)) H := by
  cases r with
  | ok b => exact ⟨b, rfl, h⟩
  | _ => exact h.elim
theorem bout_of {r : R Bool} {H : Hp} {Q : VK} (h : BOut H r Q) : ∃ b, r = .ok b ∧ Q (.bl b) H := by
  cases r with
  | ok b => exact ⟨b, rfl, h⟩
  | _ => exact h.elim
theorem eqD_ok {d e : D} {b : Bool} (h : eqD d e = .ok b) : d.depth ≤ 64 ∧ e.depth ≤ 64 ∧ (nd d = true ∧ nd e = true) ∧ PyData.eqv d e = b := by
  unfold eqD at h
  by_cases c : (d.depth ≤ 64 ∧ e.depth ≤ 64) ∧ nd d = true ∧ nd e = true
  · rw [if_pos c] at h
    cases h
    exact ⟨c.1.1, c.1.2, c.2, rfl⟩
  · rw [if_neg c] at h
    cases h
theorem ite_ok {α : Type} {c : Prop} [Decidable c] {x : α} {b : α} (h : (if c then R.ok x else R.no) = R.ok b) : c ∧ x = b := by
  by_cases z : c
  · rw [if_pos z] at h
    cases h
    exact ⟨z, rfl⟩
  · rw [if_neg z] at h
    cases h
theorem sqT_ints {K : PySem.W.Frag} {H : Hp} {a : Addr} {vs : List V} {ds : List D} {ns : List Int} (h : SqT K H a vs) (r : Reps K H ds vs) (e : intsOf ds = some ns) : SqT K H a (ns.map V.int) := by
  have := intsOf_some e
  subst this
  rw [← r.ints]
  exact h
theorem sqL_ints {K : PySem.W.Frag} {H : Hp} {a : Addr} {vs : List V} {ds : List D} {ns : List Int} (h : SqL K H a vs) (r : Reps K H ds vs) (e : intsOf ds = some ns) : SqL K H a (ns.map V.int) := by
  have := intsOf_some e
  subst this
  rw [← r.ints]
  exact h
theorem isIn_run (hu : X.A.units + 65 < cLine) {neg : Bool} {pins : List (Addr × Obj)} {s : Shared} {σ : St} {x y : V} {v u : Value} {d e : D} {b : Bool} (I : Inv X pins σ H s) (rx : RelV x v) (ry : RelV y u) (hd : Rep X.K H d x) (he : Rep X.K H e y)
    (h : isInD d e = .ok b) (q : Q (.bl (if neg then !b else b)) H) : wpAny (model X.prog X.w) X.A (compareOp (if neg then .NotIn else .In) v u) (EP X pins σ Q) X.xe s := by
  cases he with
  | lst hb rb =>
    rename_i a vs ds
    obtain ⟨⟨⟨c1, c2⟩, n1, n2⟩, rfl⟩ := ite_ok (show (if (d.depth ≤ 64 ∧ PyData.depthAll ds < 64) ∧ nd d = true ∧ nds ds = true then R.ok (ds.any fun z => PyData.eqv z d) else R.no) = .ok b from h)
    have e2 : (PyData.list ds).depth ≤ 64 := by
      show PyData.depthAll ds + 1 ≤ 64
      omega
    cases neg with
    | false => exact op_inD hu pins s σ H x _ v u Q I rx ry ⟨d, ds, hd.dp n1, (Rep.lst hb rb).dp n2, shaped_of hd c1 n1, shaped_of (Rep.lst hb rb) e2 n2, q⟩
    | true => exact op_notInD hu pins s σ H x _ v u Q I rx ry ⟨d, ds, hd.dp n1, (Rep.lst hb rb).dp n2, shaped_of hd c1 n1, shaped_of (Rep.lst hb rb) e2 n2, q⟩
  | tup hb rb =>
    rename_i a vs ds
    obtain ⟨c, rfl⟩ := ite_ok (show (if (scalar d && ds.all scalar) = true then R.ok (ds.any fun z => PyData.eqv z d) else R.no) = .ok b from (by
      cases hd <;> exact h))
    obtain ⟨c1, c2⟩ := Bool.and_eq_true_iff.mp c
    rw [← any_eqV hd c1 rb c2] at q
    cases neg with
    | false => exact op_in_seq pins s σ H x _ v u Q I rx ry ⟨a, vs, rfl, .inr hb, flatV_of hd c1, all_flatV rb c2, q⟩
    | true => exact op_notIn_seq pins s σ H x _ v u Q I rx ry ⟨a, vs, rfl, .inr hb, flatV_of hd c1, all_flatV rb c2, q⟩
  | str z hz =>
    cases hd with
    | str w hw =>
      obtain ⟨c, rfl⟩ := ite_ok (show (if w.length = 1 then R.ok (z.cps.toList.any fun c => w.cps.toList == [c]) else R.no) = .ok b from h)
      obtain ⟨k, rfl⟩ := one_sign c
      have e : (z.cps.toList.any fun c => (⟨#[k]⟩ : Str).cps.toList == [c]) = decide (k ∈ z.cps.toList) := by
        rw [Bool.eq_iff_iff, List.any_eq_true, decide_eq_true_eq]
        constructor
        · rintro ⟨c, h1, h2⟩
          have h2 : ([k] == [c]) = true := h2
          have h3 : [k] = [c] := eq_of_beq h2
          cases h3
          exact h1
        · intro h1
          exact ⟨k, h1, by simp⟩
      rw [e] at q
      cases neg with
      | false => exact op_in_sign pins s σ H _ _ v u Q I rx ry ⟨k, z, rfl, rfl, q⟩
      | true => exact op_notIn_sign pins s σ H _ _ v u Q I rx ry ⟨k, z, rfl, rfl, q⟩
    | _ => cases h
  | _ => cases hd <;> cases h
theorem op_cmpO (hu : X.A.units + 65 < cLine) (o : CmpO) : OpR X (compareOp o.op) (rCmpO X.K o) := by
  intro pins s σ H x y v u Q I rx ry ⟨hid, d, e, hd, he, h⟩
  have hd := hd.sub (hide_sub H hid)
  have he := he.sub (hide_sub H hid)
  have hu2 : X.A.units + 64 < cLine := by omega
  cases o with
  | eq =>
    obtain ⟨b, e1, q⟩ := bout_of h
    obtain ⟨c1, c2, ⟨n1, n2⟩, rfl⟩ := eqD_ok e1
    exact op_eqD hu2 pins s σ H x y v u Q I rx ry ⟨d, e, hd.dp n1, he.dp n2, shaped_of hd c1 n1, shaped_of he c2 n2, q⟩
  | ne =>
    obtain ⟨b, e1, q⟩ := eqNot_of h
    obtain ⟨c1, c2, ⟨n1, n2⟩, rfl⟩ := eqD_ok e1
    exact op_neD hu2 pins s σ H x y v u Q I rx ry ⟨d, e, hd.dp n1, he.dp n2, shaped_of hd c1 n1, shaped_of he c2 n2, q⟩
  | lt =>
    cases hd with
    | int i => cases he with
      | int j => exact op_lt pins s σ H _ _ v u Q I rx ry ⟨i, j, rfl, rfl, h⟩
      | _ => exact h.elim
    | str a ha => cases he with
      | str b hb => exact op_lt_str pins s σ H _ _ v u Q I rx ry ⟨a, b, rfl, rfl, h⟩
      | _ => exact h.elim
    | tup ha ra => cases he with
      | tup hb rb =>
        rename_i al vs ds bl ws es
        have h : BOut H (match intsOf ds, intsOf es with | some ns, some ms => .ok (HT.lexLt ns ms) | _, _ => .no) Q := h
        cases e1 : intsOf ds with
        | none => rw [e1] at h; exact h.elim
        | some ns =>
          cases e2 : intsOf es with
          | none => rw [e1, e2] at h; exact h.elim
          | some ms =>
            rw [e1, e2] at h
            exact op_ltT (by omega) pins s σ H _ _ v u Q I rx ry ⟨al, bl, ns, ms, rfl, rfl, sqT_ints ha ra e1, sqT_ints hb rb e2, h⟩
      | _ => exact h.elim
    | _ => cases he <;> exact h.elim
  | gt =>
    cases hd with
    | int i => cases he with
      | int j => exact op_gt pins s σ H _ _ v u Q I rx ry ⟨i, j, rfl, rfl, h⟩
      | _ => exact h.elim
    | str a ha => cases he with
      | str b hb => exact op_gt_str pins s σ H _ _ v u Q I rx ry ⟨a, b, rfl, rfl, h⟩
      | _ => exact h.elim
    | _ => cases he <;> exact h.elim
  | le =>
    cases hd with
    | int i => cases he with
      | int j => exact op_le pins s σ H _ _ v u Q I rx ry ⟨i, j, rfl, rfl, h⟩
      | _ => exact h.elim
    | _ => cases he <;> exact h.elim
  | ge =>
    cases hd with
    | int i => cases he with
      | int j => exact op_ge pins s σ H _ _ v u Q I rx ry ⟨i, j, rfl, rfl, h⟩
      | _ => exact h.elim
    | _ => cases he <;> exact h.elim
  | is =>
    cases he with
    | non =>
      refine op_isN pins s σ H x _ v u Q I rx ry ⟨rfl, ?_⟩
      cases hd <;> exact h
    | bl b =>
      cases hd with
      | bl a =>
        refine op_isBl pins s σ H _ _ v u Q I rx ry ⟨a, b, rfl, rfl, ?_⟩
        have h : Q (.bl (a == b)) H := h
        rw [Bool.beq_eq_decide_eq] at h
        exact h
      | _ => exact h.elim
    | _ => cases hd <;> exact h.elim
  | isn =>
    cases he with
    | non =>
      refine op_notN pins s σ H x _ v u Q I rx ry ⟨rfl, ?_⟩
      cases hd <;> exact h
    | bl b =>
      cases hd with
      | bl a =>
        refine op_notBl pins s σ H _ _ v u Q I rx ry ⟨a, b, rfl, rfl, ?_⟩
        have h : Q (.bl (!(a == b))) H := h
        rw [Bool.beq_eq_decide_eq] at h
        exact h
      | _ => exact h.elim
    | _ => cases hd <;> exact h.elim
  | isIn =>
    obtain ⟨b, e1, q⟩ := bout_of h
    exact isIn_run hu (neg := false) I rx ry hd he e1 q
  | notIn =>
    obtain ⟨b, e1, q⟩ := eqNot_of h
    exact isIn_run hu (neg := true) I rx ry hd he e1 q
end
end Gn

set_option Elab.async false
set_option linter.all false
set_option maxRecDepth 100000
set_option maxHeartbeats 4000000
-- a tuple taken into a list, and sorted
namespace GnS
open PySem PyProof.Rows Srt SrtO SrtR
section
variable {prog : Program} {w : World} {A : Around} {E : Value → Shared → Prop} {s : Shared}
/-- the heap with a fresh list that has taken these items -/
def took (h : Heap) (us : List Value) : Heap := (h.push (seqObj "list" #[] 0)).update h.objs.size (Obj.mapSeq (· ++ us.toArray))
theorem took_old {h : Heap} {us : List Value} {b : Addr} {o : Obj} (q : h.get? b = some o) : (took h us).get? b = some o ∧ b < h.objs.size := by
  have hb : b < h.objs.size := Heap.lt_size q
  unfold took
  exact ⟨by rw [Heap.get?_update_ne _ _ _ _ (Nat.ne_of_lt hb)]; exact Heap.get?_push_of_some _ q, hb⟩
theorem took_size (h : Heap) (us : List Value) : (took h us).objs.size = h.objs.size + 1 := by
  unfold took
  rw [Heap.size_update, size_push']
theorem take_tuple {t : Addr} {us : List Value} {Q : List Value → Shared → Prop} (ht : IsTup s.heap t us.toArray) (hz : us.length ≤ sizeLine) (h : Q us { s with heap := took s.heap us }) : wpAny (model prog w) A (collect (.ref t)) Q E s := by
  obtain ⟨ob, e1, e2, k, e3⟩ := id ht
  have new : (s.heap.push (seqObj "list" #[] 0)).get? s.heap.objs.size = some (seqObj "list" #[] 0) := Heap.get?_push_size _ rfl
  have old : (s.heap.push (seqObj "list" #[] 0)).get? t = some ob := Heap.get?_push_of_some _ e1
  have ext : wpAny (model prog w) A.in1 (Builtin.List.listExtendWith (.ref s.heap.objs.size) (.ref t) (.ref s.heap.objs.size)) (fun f s' => f = .done (.ret (.ref s.heap.objs.size)) ∧ s' = { s with heap := took s.heap us }) (fun _ _ => False) { s with heap := s.heap.push (seqObj "list" #[] 0) } := by
    unfold Builtin.List.listExtendWith
    refine wpAny_bind (wpAny_typeOf (T := "tuple") ⟨ob, old, e2⟩ ?_)
    rw [if_pos (by rw [show (Value.type "tuple" == Value.type "tuple") = true from rfl]; simp)]
    refine wpAny_bind (listItems_at old e3 (wpAny_bind (listItems_at (xs := #[]) (n := 0) new rfl ?_)))
    rw [if_neg (by simp)]
    refine wpAny_bind (listUpdate_at (xs := #[]) (n := 0) new rfl (wpAny_pure ⟨rfl, rfl⟩) (Nat.zero_le _) ?_)
    simp only [Array.size_append, List.size_toArray, List.length_nil]
    omega
  unfold collect
  refine wpAny_bind (wpAny_runValue (codeAny_builtin entry_proto_collect' ?_))
  show wpAny _ _ (do again (.builtin "list.__iadd__" ⟨[← newList [], .ref t], []⟩)) _ _ s
  refine wpAny_bind (wpAny_newList (wpAny_pure ⟨Code.quiet_builtin _ (by decide +kernel), codeAny_builtin entry_list_iadd' ?_⟩))
  refine wpAny_mono ext ?_ fun _ _ z => z.elim
  rintro _ _ ⟨rfl, rfl⟩
  show wpAny _ A (load s.heap.objs.size >>= _) _ _ _
  refine wpAny_bind (wpAny_load (get?_update_seq new _) ?_)
  show wpAny _ _ (pure ((#[] : Array Value) ++ us.toArray).toList) Q E _
  have eu : ((#[] : Array Value) ++ us.toArray).toList = us := by simp
  rw [eu]
  exact wpAny_pure h
/-- sorted(t, ..) of a tuple, by keywords that mean reverse=b -/
theorem sorted_tup {t : Addr} {us : List Value} {b : Bool} {kw : List (Str × Value)} {lt : Value → Value → Bool} {Q : Value → Shared → Prop} (swo : Swo lt) (ht : IsTup s.heap t us.toArray) (hz : us.length ≤ sizeLine)
    (same : ∀ a, Builtin.«list.sort» ⟨[.ref a], kw⟩ = Builtin.«list.sort» ⟨[.ref a], [(Str.ofString "reverse", .bool b)]⟩) (a1 : argsOk "sorted" ⟨[.ref t], kw⟩) (a2 : ∀ a, argsOk "list.sort" ⟨[a], kw⟩)
    (sortable : 2 ≤ us.length → ∀ (g : Heap) (a : Addr), SortableO prog w A.in1.in1 { s with heap := g } a us lt)
    (h : ∀ out : List Value, Srtd lt out → Stb lt out (if b = true then us.reverse else us) → Q (.ref (s.heap.objs.size + 1)) { s with heap := sortedAll s.heap us (if b = true then out.toArray.reverse else out.toArray) }) :
    wpAny (model prog w) A (call (.builtin "sorted") [.ref t] kw) Q E s := by
  refine call_function_entry_kw kind_sorted plain_sorted entry_sorted a1 ?_
  unfold Builtin.«sorted»
  refine wpAny_bind (m := checkCount "sorted" 1 1 _) (wpAny_pure (wpAny_bind (take_tuple ht hz (wpAny_bind (wpAny_newList ?_ hz)))))
  have at_ : ((took s.heap us).push (seqObj "list" us.toArray 0)).get? (s.heap.objs.size + 1) = some (seqObj "list" us.toArray 0) := by
    rw [← took_size s.heap us]
    exact Heap.get?_push_size _ rfl
  show wpAny _ _ _ _ _ { s with heap := (took s.heap us).push (seqObj "list" us.toArray 0) }
  rw [took_size]
  refine wpAny_bind (wpAny_holding (wpAny_call_entry_kw slot_list_sort ⟨_, at_, rfl⟩ entry_list_sort ?_ (a2 _)))
  rw [same]
  exact list_sort_ordR swo at_ hz (fun two => sortable two _ _) fun out o1 o2 => ⟨_, rfl, wpAny_pure ⟨_, rfl, h out o1 o2⟩⟩
theorem sort_plain (a : Addr) : Builtin.«list.sort» ⟨[.ref a], []⟩ = Builtin.«list.sort» ⟨[.ref a], [(Str.ofString "reverse", .bool false)]⟩ := by
  rw [list_sort_rev]
  first | rfl | kernel_rfl
end
end GnS
namespace Gn
open PySem PySem.Spec PyProof.Rows L2
variable [Tbls]
section
variable {X : Cx}
theorem insI_perm (n : Int) : ∀ ms : List Int, (insI n ms).Perm (n :: ms)
  | [] => List.Perm.refl _
  | m :: ms => by
    unfold insI
    by_cases h : n ≤ m
    · rw [if_pos h]
    · rw [if_neg h]
      exact ((insI_perm n ms).cons m).trans (List.Perm.swap ..)
theorem sortI_perm : ∀ ns : List Int, (sortI ns).Perm ns
  | [] => List.Perm.refl _
  | n :: ns => (insI_perm n _).trans ((sortI_perm ns).cons n)
theorem insI_sorted (n : Int) : ∀ ms : List Int, ms.Pairwise (· ≤ ·) → (insI n ms).Pairwise (· ≤ ·)
  | [], _ => by simp [insI]
  | m :: ms, h => by
    unfold insI
    have h2 := List.pairwise_cons.mp h
    by_cases c : n ≤ m
    · rw [if_pos c]
      refine List.pairwise_cons.mpr ⟨fun x hx => ?_, h⟩
      rcases List.mem_cons.mp hx with e | e
      · rw [e]; exact c
      · exact Int.le_trans c (h2.1 x e)
    · rw [if_neg c]
      refine List.pairwise_cons.mpr ⟨fun x hx => ?_, insI_sorted n ms h2.2⟩
      rcases List.mem_cons.mp ((insI_perm n ms).mem_iff.mp hx) with e | e
      · rw [e]; omega
      · exact h2.1 x e
theorem sortI_sorted : ∀ ns : List Int, (sortI ns).Pairwise (· ≤ ·)
  | [] => .nil
  | n :: ns => insI_sorted n _ (sortI_sorted ns)
theorem sorted_unique : ∀ {a b : List Int}, a.Perm b → a.Pairwise (· ≤ ·) → b.Pairwise (· ≤ ·) → a = b
  | [], b, p, _, _ => (List.Perm.nil_eq p)
  | x :: a, [], p, _, _ => absurd p.length_eq (by simp)
  | x :: a, y :: b, p, h, k => by
    have h2 := List.pairwise_cons.mp h
    have k2 := List.pairwise_cons.mp k
    have e : x = y := by
      have m1 : x ∈ y :: b := p.mem_iff.mp List.mem_cons_self
      have m2 : y ∈ x :: a := p.mem_iff.mpr List.mem_cons_self
      have l1 : y ≤ x := by
        rcases List.mem_cons.mp m1 with z | z
        · rw [z]; exact Int.le_refl _
        · exact k2.1 x z
      have l2 : x ≤ y := by
        rcases List.mem_cons.mp m2 with z | z
        · rw [z]; exact Int.le_refl _
        · exact h2.1 y z
      omega
    subst e
    rw [sorted_unique ((List.perm_cons x).mp p) h2.2 k2.2]
theorem sortI_eq {a ns : List Int} (p : a.Perm ns) (h : a.Pairwise (· ≤ ·)) : a = sortI ns := sorted_unique (p.trans (sortI_perm ns).symm) h (sortI_sorted ns)
theorem sortI_rev {a ns : List Int} (p : a.Perm ns) (h : a.Pairwise (· ≥ ·)) : a = (sortI ns).reverse := by
  have e : a.reverse = sortI ns := sortI_eq ((List.reverse_perm a).trans p) (List.pairwise_reverse.mpr (h.imp fun {x y} z => z))
  rw [← e, List.reverse_reverse]
/-- sorted of a tuple of ints -/
theorem sort_tupI {pins : List (Addr × Obj)} {s : Shared} {σ : St} {H : Hp} {a : Addr} {ns : List Int} {b : Bool} {kw : List (Str × Value)} {Q : VK} (I : Inv X pins σ H s) (h : SqT X.K H a (ns.map V.int))
    (same : ∀ a, Builtin.«list.sort» ⟨[.ref a], kw⟩ = Builtin.«list.sort» ⟨[.ref a], [(Str.ofString "reverse", .bool b)]⟩) (a1 : argsOk "sorted" ⟨[.ref a], kw⟩) (a2 : ∀ a, argsOk "list.sort" ⟨[a], kw⟩)
    (q : ∀ (ms : List Int) (p : Addr), ms.Perm ns → OrdB b ms → H p = none → Q (.ref p) (upd H p (.lst (ms.map V.int)))) : wpAny (model X.prog X.w) X.A (call (.builtin "sorted") [.ref a] kw) (EP X pins σ Q) X.xe s := by
  obtain ⟨us, rv, ht, hz⟩ := I.tuple h
  have hi := rv.ints
  refine GnS.sorted_tup (b := b) SrtO.swo_int ht (by rw [← rv.length]; exact hz) same a1 a2 (fun two _ _ => SrtO.ints_sortable hi two) fun out o1 o2 => ?_
  obtain ⟨ms, k1, k2, k3⟩ := SrtR.ints_outR hi o1 o2
  obtain ⟨ep, at_⟩ := PyProof.Rows.sortedAll_at s.heap us (if b = true then out.toArray.reverse else out.toArray)
  have few : (ms.map V.int).length ≤ sizeLine := by
    rw [List.length_map] at hz ⊢
    rw [k2.length_eq]
    exact hz
  refine ⟨.ref _, upd H (s.heap.objs.size + 1) (.lst (ms.map V.int)), I.laid (t' := s.toks) (fun _ _ => PyProof.Rows.sortedAll_old) (Nat.le_succ _) ⟨few, _, ep, vals_of_ints k1, ?_⟩, rfl, q _ _ k2 k3 (I.hok.fresh (Nat.le_succ _))⟩
  rw [Array.toArray_toList]
  exact at_
theorem cr_sortS {pins : List (Addr × Obj)} {s : Shared} {σ : St} {H : Hp} {a : Addr} {ns : List Int} {Q : VK} (I : Inv X pins σ H s) (h : SqL X.K H a (ns.map V.int) ∨ SqT X.K H a (ns.map V.int))
    (q : ∀ p, H p = none → Q (.ref p) (upd H p (.lst ((sortI ns).map V.int)))) : wpAny (model X.prog X.w) X.A (call (.builtin "sorted") [.ref a]) (EP X pins σ Q) X.xe s := by
  rcases h with h | h
  · exact cr_sortedI pins s σ H [.ref a] [.ref a] Q I (.cons rfl .nil) ⟨a, ns, rfl, h, fun ns' p h1 h2 hp => by rw [sortI_eq h1 h2]; exact q p hp⟩
  · exact sort_tupI (b := false) I h GnS.sort_plain (args_sorted1 _) (fun _ => args_list_sort _) fun ms p h1 h2 hp => by rw [sortI_eq h1 h2]; exact q p hp
theorem cr_sortR {pins : List (Addr × Obj)} {s : Shared} {σ : St} {H : Hp} {a : Addr} {ns : List Int} {Q : VK} (I : Inv X pins σ H s) (h : SqL X.K H a (ns.map V.int) ∨ SqT X.K H a (ns.map V.int))
    (q : ∀ p, H p = none → Q (.ref p) (upd H p (.lst ((sortI ns).reverse.map V.int)))) : wpAny (model X.prog X.w) X.A (call (.builtin "sorted") [.ref a] [(Str.ofString "reverse", .bool true)]) (EP X pins σ Q) X.xe s := by
  have q2 : ∀ (ms : List Int) (p : Addr), ms.Perm ns → OrdB true ms → H p = none → Q (.ref p) (upd H p (.lst (ms.map V.int))) := fun ms p h1 h2 hp => by rw [sortI_rev h1 h2]; exact q p hp
  rcases h with h | h
  · exact sorted_run I h (fun _ => rfl) (PyProof.Rows.args_sorted_rev _ _) (fun _ => PyProof.Rows.args_list_sort_rev _ _) q2
  · exact sort_tupI (b := true) I h (fun _ => rfl) (PyProof.Rows.args_sorted_rev _ _) (fun _ => PyProof.Rows.args_list_sort_rev _ _) q2
end
end Gn

set_option Elab.async false
set_option linter.all false
set_option maxRecDepth 100000
set_option maxHeartbeats 4000000
-- a set made of a list of ints
namespace GnS
open PySem L2
section
variable {P : Program} {w : World} {A : Around} {E : Value → Shared → Prop} {s : Shared}
/-- an empty set, as it is laid -/
def void (w : World) : Obj := { cls := .type "set", dict := none, data := .set #[] 0 (.fresh 0 0 (!w.params.followText "set-order")) }
/-- what the loop leaves -/
def Fed (w : World) (S : Addr) (ns : List Int) (h0 : Heap) (s0 s2 : Shared) : Prop := ∃ h' tk c, s2 = { s0 with heap := h', toks := tk } ∧ SetR w h' S (fun j => decide (j ∈ ns)) c ∧ c ≤ ns.length ∧ ∀ b o, h0.get? b = some o → h'.get? b = some o
theorem feed {l : Addr} {us : Array Value} (ns : List Int) (calm : A.handled = none) (hl : s.heap.IsList l us) (hit : PyProof.Rows.IntsAre us.toList ns) (hb : ns.length + 1 < scanBound) :
    wpAny (model P w) A (Builtin.«set.__init__» ⟨[.ref s.heap.objs.size, .ref l], []⟩) (fun f s2 => f = .done (.ret .none) ∧ Fed w s.heap.objs.size ns s.heap s s2) E { s with heap := s.heap.push (void w) } := by
  have len : us.size = ns.length := by simpa using PyProof.Rows.IntsAre.length hit
  obtain ⟨⟨oc, od, odt, osl⟩, at0, e1, nl, e2⟩ := hl
  dsimp only at e1 e2
  subst e1 e2
  have lt : l < s.heap.objs.size := Heap.lt_size at0
  have z1 : (s.heap.push (void w)).objs.size = s.heap.objs.size + 1 := Heap.size_push ..
  have at1 : (s.heap.push (void w)).get? l = some ⟨.type "list", od, .seq us nl, osl⟩ := Heap.get?_push_of_some _ at0
  have il : (s.heap.push (void w)).IsList l us := ⟨_, at1, rfl, nl, rfl⟩
  have s1 := F.sub_list_set
  have s2 := F.sub_list_frozenset
  have nd : (Value.type "list" == Value.type "dict") = false := rfl
  have vals : ∀ (i : Nat) (v : Value), us[i]? = some v → ∃ k t, ns[i]? = some k ∧ v = .int k t := by
    intro i v hv
    have hi : i < ns.length := len ▸ (Array.getElem?_eq_some_iff.mp hv).1
    obtain ⟨t, rfl⟩ := PyProof.Rows.IntsAre.int_at hit i v (by simpa using hv)
    exact ⟨ns[i], t, List.getElem?_eq_getElem hi, by simp [List.getD_eq_getElem?_getD, hi]⟩
  unfold Builtin.«set.__init__» noKeywords Builtin.Frozenset.updateFrom
  generalize hI : pyIter = it
  wp_walk
  subst hI
  refine wpAny_pyIter_list il (wpAny_bind (wpAny_runValue ?_))
  have q1 : l ≠ (s.heap.push (void w)).objs.size := z1 ▸ Nat.ne_of_lt (Nat.lt_succ_of_lt lt)
  have q2 : A.in1.handled = none := by simp [calm]
  have apart : s.heap.objs.size ∉ [(s.heap.push (void w)).objs.size, l] := by
    rw [z1]
    intro z
    rcases List.mem_cons.mp z with z | z
    · exact Nat.ne_of_lt (Nat.lt_succ_self _) z
    · exact Nat.ne_of_gt lt (by simpa using z)
  refine set_update_ints (Walks.list q2 _ l q1 us).toS s.heap.objs.size apart ns len hb vals (us.size - 0) 0 _ rfl (Nat.zero_le _) ⟨⟨_, Heap.get?_push_size _ rfl, rfl, rfl⟩, il.push _⟩ ⟨0, Nat.le_refl 0, setR_new_at ?first⟩ ?last
  case first => exact Heap.get?_push_of_some _ (Heap.get?_push_size _ rfl)
  case last =>
    rintro ⟨h', g', d', tk', os'⟩ c m hc R
    obtain rfl : g' = s.gens := m.gens
    obtain rfl : d' = s.drawn := m.drawn
    obtain rfl : os' = s.os := m.os
    refine wpAny_pure (wpAny_pure ⟨rfl, h', tk', c, rfl, R, len ▸ hc, fun b o e => m.heap b o ?_ (Heap.get?_push_of_some _ (Heap.get?_push_of_some _ e))⟩)
    have hb := Heap.lt_size e
    intro z
    rw [z1] at z
    rcases List.mem_cons.mp z with z | z
    · exact Nat.ne_of_lt hb z
    · exact Nat.ne_of_lt (Nat.lt_succ_of_lt hb) (by simpa using z)
theorem made {l : Addr} {us : Array Value} (ns : List Int) {Q : Value → Shared → Prop} (calm : A.handled = none) (hl : s.heap.IsList l us) (hit : PyProof.Rows.IntsAre us.toList ns) (hb : ns.length + 1 < scanBound)
    (h : ∀ (h' : Heap) (tk c : Nat), SetR w h' s.heap.objs.size (fun j => decide (j ∈ ns)) c → c ≤ ns.length → (∀ b o, s.heap.get? b = some o → h'.get? b = some o) → Q (.ref s.heap.objs.size) { s with heap := h', toks := tk }) :
    wpAny (model P w) A (call (.type "set") [.ref l]) Q E s := by
  have c0 := PySem.F.called_set
  obtain ⟨c, tl, m1⟩ := c0.mro
  have m2 := c0.made
  have m3 := c0.sub
  have m4 := c0.notType
  have m5 := c0.canCreate
  have m6 := F.typeCall_set_1 (.ref l)
  have m7 := c0.init.lookup
  refine wpAny_call (codeAny_of_tree (wpAny_pure ⟨Code.quiet_builtin _ (by decide +kernel), codeAny_builtin PySem.F.entry_type_call ?_⟩))
  rw [Around.under_plain (weight_type_call_type "set" [.ref l] []) rfl]
  repeat (any_goals (first | assumption | wp_step))

  refine codeAny_mono (code_set_led1 (.ref l) (E := E) (Q₁ := fun x t => x = .ref s.heap.objs.size ∧ t = { s with heap := s.heap.push (void w) }) ⟨rfl, rfl⟩) ?_
  rintro (_ | (x | _ | _ | _)) s1 z <;> first | exact z | exact z.elim | skip
  obtain ⟨rfl, rfl⟩ := z
  have at1 : (s.heap.push (void w)).get? s.heap.objs.size = some (void w) := Heap.get?_push_size _ rfl
  have ty : Shared.TypeIs { s with heap := s.heap.push (void w) } (.ref s.heap.objs.size) "set" := ⟨_, at1, rfl⟩
  have m8 := c0.init.bind (.ref s.heap.objs.size)
  repeat (any_goals (first | assumption | wp_step))

  refine codeAny_mono (codeAny_call_builtin (R := wants (fun r s2 => r = .none ∧ Fed w s.heap.objs.size ns s.heap s s2) E) c0.init.plain PySem.F.entry_set_init (check_set_init_1 ty ?_)) ?_
  · refine wpAny_mono (feed ns (by simp [calm]) hl hit hb) (fun f s2 hf => ?_) fun _ _ z => z
    obtain ⟨rfl, hf⟩ := hf
    exact ⟨rfl, hf⟩
  · rintro (_ | (x | _ | _ | _)) s2 z <;> first | exact z | exact z.elim | skip
    obtain ⟨rfl, h', tk, c', rfl, R, hc, k⟩ := z
    repeat (any_goals (first | assumption | wp_step))
    exact h _ _ _ R hc k
end
end GnS
namespace Gn
open PySem PySem.Spec PyProof.Rows L2
variable [Tbls]
/-! ### sets of ints: sorted, each once -/
theorem insU_mem {n x : Int} : ∀ {ms : List Int}, x ∈ insU n ms ↔ x = n ∨ x ∈ ms
  | [] => by simp [insU]
  | m :: ms => by
    unfold insU
    split
    · simp
    · split
      · rename_i e
        subst e
        simp
      · simp [insU_mem (ms := ms)]
        constructor
        · rintro (h | h | h) <;> simp [h]
        · rintro (h | h | h) <;> simp [h]
theorem setI_mem {x : Int} : ∀ {ns : List Int}, x ∈ setI ns ↔ x ∈ ns
  | [] => Iff.rfl
  | n :: ns => by
    show x ∈ insU n (setI ns) ↔ _
    rw [insU_mem, setI_mem (ns := ns)]
    simp
theorem insU_asc {n : Int} : ∀ {ms : List Int}, ms.Pairwise (· < ·) → (insU n ms).Pairwise (· < ·)
  | [], _ => by simp [insU]
  | m :: ms, h => by
    obtain ⟨h1, h2⟩ := List.pairwise_cons.mp h
    unfold insU
    split
    · rename_i c
      refine List.pairwise_cons.mpr ⟨fun y hy => ?_, h⟩
      rcases List.mem_cons.mp hy with rfl | hy
      · exact c
      · exact Int.lt_trans c (h1 y hy)
    · split
      · exact h
      · refine List.pairwise_cons.mpr ⟨fun y hy => ?_, insU_asc h2⟩
        rcases insU_mem.mp hy with rfl | hy
        · omega
        · exact h1 y hy
theorem setI_asc : ∀ (ns : List Int), (setI ns).Pairwise (· < ·)
  | [] => .nil
  | _ :: ns => insU_asc (setI_asc ns)
/-- an ascending list is known by its members -/
theorem asc_ext : ∀ {a b : List Int}, a.Pairwise (· < ·) → b.Pairwise (· < ·) → (∀ x, x ∈ a ↔ x ∈ b) → a = b
  | [], [], _, _, _ => rfl
  | [], y :: b, _, _, h => absurd ((h y).mpr (by simp)) (by simp)
  | x :: a, [], _, _, h => absurd ((h x).mp (by simp)) (by simp)
  | x :: a, y :: b, ha, hb, h => by
    obtain ⟨a1, a2⟩ := List.pairwise_cons.mp ha
    obtain ⟨b1, b2⟩ := List.pairwise_cons.mp hb
    have e : x = y := by
      rcases List.mem_cons.mp ((h x).mp (by simp)) with z | z
      · exact z
      · rcases List.mem_cons.mp ((h y).mpr (by simp)) with z2 | z2
        · exact z2.symm
        · have := a1 y z2
          have := b1 x z
          omega
    subst e
    refine congrArg (x :: ·) (asc_ext a2 b2 fun z => ⟨fun hz => ?_, fun hz => ?_⟩)
    · rcases List.mem_cons.mp ((h z).mp (by simp [hz])) with e | e
      · have := a1 z hz
        omega
      · exact e
    · rcases List.mem_cons.mp ((h z).mpr (by simp [hz])) with e | e
      · have := b1 z hz
        omega
      · exact e
section
variable {X : Cx}
/-- set(xs) of a list of ints -/
def rSetI (K : PySem.W.Frag) (w : World) : List V → Hp → VK → Prop := fun xs H Q => ∃ (l : Addr) (ns : List Int), xs = [V.ref l] ∧ SqL K H l (ns.map V.int) ∧ ns.length < 64 ∧ ∀ c p, c ≤ ns.length → H p = none → Q (.ref p) (upd H p (SetO w p (fun j => decide (j ∈ ns)) c))
theorem cr_setI (hc : X.calm = true) : CallR X (.type "set") (rSetI X.K X.w) := by
  rintro pins s σ H xs us Q I r ⟨l, ns, rfl, hl, small, q⟩
  rw [Vals.ref1 r]
  obtain ⟨its, rv, pl, hz⟩ := I.list hl
  have room : ns.length + 1 < scanBound := by
    unfold scanBound
    omega
  refine GnS.made ns (I.ok.hd hc) pl.isList (by simpa using rv.ints) room fun h' tk c R hk keep => ?_
  exact ⟨.ref _, upd H s.heap.objs.size (SetO X.w s.heap.objs.size (fun j => decide (j ∈ ns)) c), I.laid (t' := tk) (fun b u e => keep b u e) (Nat.le_refl _) (setO_new R), rfl, q c _ hk (I.hok.fresh (Nat.le_refl _))⟩
theorem setR_count {w : World} {h : Heap} {a : Addr} {ns : List Int} {c : Nat} (R : SetR w h a (fun j => decide (j ∈ ns)) c) : c = (setI ns).length := by
  obtain ⟨o, es, ep, t, _, _, _, _, nd, mem, _, _, sz, _⟩ := R
  have n2 : (setI ns).Nodup := (setI_asc ns).imp fun h => Int.ne_of_lt h
  have p : (es.toList.map keyOf).Perm (setI ns) := (List.perm_ext_iff_of_nodup nd n2).mpr fun x => by
    rw [setI_mem]
    have := mem x
    simp only [decide_eq_true_eq] at this
    exact this.symm
  have := p.length_eq
  simp at this
  omega
/-- set(xs) of a list of ints, counted -/
def rSetN (K : PySem.W.Frag) (w : World) : List V → Hp → VK → Prop := fun xs H Q => ∃ (l : Addr) (ns : List Int), xs = [V.ref l] ∧ SqL K H l (ns.map V.int) ∧ ns.length < 4000 ∧ ∀ c p, c = (setI ns).length → c ≤ ns.length → H p = none → Q (.ref p) (upd H p (SetO w p (fun j => decide (j ∈ ns)) c))
theorem cr_setN (hc : X.calm = true) : CallR X (.type "set") (rSetN X.K X.w) := by
  rintro pins s σ H xs us Q I r ⟨l, ns, rfl, hl, small, q⟩
  rw [Vals.ref1 r]
  obtain ⟨its, rv, pl, hz⟩ := I.list hl
  have room : ns.length + 1 < scanBound := by
    unfold scanBound
    omega
  refine GnS.made ns (I.ok.hd hc) pl.isList (by simpa using rv.ints) room fun h' tk c R hk keep => ?_
  exact ⟨.ref _, upd H s.heap.objs.size (SetO X.w s.heap.objs.size (fun j => decide (j ∈ ns)) c), I.laid (t' := tk) (fun b u e => keep b u e) (Nat.le_refl _) (setO_new R), rfl, q c _ (setR_count R) hk (I.hok.fresh (Nat.le_refl _))⟩
/-- its length -/
def rLenS (w : World) : List V → Hp → VK → Prop := fun xs H Q => ∃ (a : Addr) (S : Int → Bool) (n : Nat), xs = [V.ref a] ∧ H a = some (SetO w a S n) ∧ n < 5000 ∧ Q (.int n) H
theorem cr_lenS : CallR X (.builtin "len") (rLenS X.w) := by
  rintro pins s σ H xs us Q I r ⟨a, S, n, rfl, ha, hn, q⟩
  rw [Vals.ref1 r]
  obtain ⟨o, es, ep, t, ho, hex, hd, _, _, _, _, hf, sz, _⟩ := setO_get I ha
  exact call_len_set ho hex hd hf (by omega) ⟨.int n, H, I.tok _, ⟨_, by rw [sz]⟩, q⟩
end
end Gn

set_option Elab.async false
set_option linter.all false
set_option maxRecDepth 100000
set_option maxHeartbeats 4000000
namespace Gn
open PySem PySem.Spec PyProof.Rows L2
variable [Tbls]

/-! ### sorted of a list of data -/
theorem sd_parts {ds : List D} (h : sdOk ds = true) : PySem.W.AllAlike ds ∧ PySem.W.Sortable ds ∧ ds.length ≤ sizeLine ∧ ∀ d ∈ ds, d.depth ≤ 50 ∧ nd d = true := by
  unfold sdOk at h
  obtain ⟨h1, h2⟩ := Bool.and_eq_true_iff.mp h
  obtain ⟨h3, h4⟩ := Bool.and_eq_true_iff.mp h1
  obtain ⟨h5, h6⟩ := Bool.and_eq_true_iff.mp h2
  refine ⟨fun d hd e he => ?_, ?_, of_decide_eq_true h5, fun d hd => ⟨of_decide_eq_true (Bool.and_eq_true_iff.mp (List.all_eq_true.mp h6 d hd)).1, (Bool.and_eq_true_iff.mp (List.all_eq_true.mp h6 d hd)).2⟩⟩
  · exact List.all_eq_true.mp (List.all_eq_true.mp h3 d hd) e he
  · rcases Bool.or_eq_true_iff.mp h4 with z | z
    · refine .inl fun d hd => ?_
      have := List.all_eq_true.mp z d hd
      split at this
      · exact ⟨_, _, rfl⟩
      · cases this
    · refine .inr fun d hd => ?_
      have := List.all_eq_true.mp z d hd
      split at this
      · cases this
      · cases this
      · rename_i n1 n2
        exact ⟨n1, n2⟩
theorem Reps.each {K : PySem.W.Frag} {H : Hp} : ∀ {ds : List D} {vs : List V} {us : List Value}, Reps K H ds vs → Vals vs us → PySem.W.EachIs (fun u (b : D × V) => Rep K H b.1 b.2 ∧ RelV b.2 u) us (ds.zip vs) ∧ (ds.zip vs).map Prod.fst = ds
  | _, _, _, .nil, .nil => ⟨.nil, rfl⟩
  | _, _, _, .cons h r, .cons a b => by
    obtain ⟨q1, q2⟩ := Reps.each r b
    exact ⟨.cons ⟨h, a⟩ q1, by rw [List.zip_cons_cons, List.map_cons, q2]⟩
theorem Reps.eachN {K : PySem.W.Frag} {H : Hp} : ∀ {ds : List D} {vs : List V} {us : List Value}, Reps K H ds vs → (∀ d ∈ ds, nd d = true) → Vals vs us → PySem.W.EachIs (fun u (b : D × V) => nd b.1 = true ∧ Rep K H b.1 b.2 ∧ RelV b.2 u) us (ds.zip vs)
  | _, _, _, .nil, _, .nil => .nil
  | _, _, _, .cons h r, n, .cons a b => .cons ⟨n _ (List.mem_cons_self ..), h, a⟩ (Reps.eachN r (fun d hd => n d (List.mem_cons_of_mem _ hd)) b)
theorem each_back {K : PySem.W.Frag} {H : Hp} : ∀ {us : List Value} {bs : List (D × V)}, PySem.W.EachIs (fun u (b : D × V) => Rep K H b.1 b.2 ∧ RelV b.2 u) us bs → Reps K H (bs.map Prod.fst) (bs.map Prod.snd) ∧ Vals (bs.map Prod.snd) us
  | _, _, .nil => ⟨.nil, .nil⟩
  | _, _, .cons h t => ⟨.cons h.1 (each_back t).1, .cons h.2 (each_back t).2⟩
section
variable {X : Cx}
theorem cr_sortD {pins : List (Addr × Obj)} {s : Shared} {σ : St} {H H0 : Hp} {a : Addr} {ds : List D} {vs : List V} {Q : VK} (I : Inv X pins σ H s) (hu : X.A.units + 65 < cLine) (h : SqL X.K H a vs) (hs : Sub H0 H) (r : Reps X.K H0 ds vs) (ok : sdOk ds = true)
    (q : ∀ vs' p, Reps X.K H0 (sortD ds) vs' → H p = none → Q (.ref p) (upd H p (.lst vs'))) : wpAny (model X.prog X.w) X.A (call (.builtin "sorted") [.ref a]) (EP X pins σ Q) X.xe s := by
  obtain ⟨al, so, len, dp⟩ := sd_parts ok
  obtain ⟨its, rv, hl, hz⟩ := I.list h
  obtain ⟨e, eb⟩ := r.each rv
  have er : PySem.W.EachIs (fun v (b : D × V) => ∃ as, PySem.Reads s.heap v (Prod.fst b) as) its (ds.zip vs) := (r.eachN (fun d hd => (dp d hd).2) rv).mono fun u b hb => Dp.reads I b.1 b.2 u ((hb.2.1.sub hs).dp hb.1) hb.2.2
  have lz : (ds.zip vs).length = ds.length := by have := congrArg List.length eb; simpa using this
  refine PySem.W.sorted_data (enc := Prod.fst) hl.isList e er (by rw [eb]; exact al) (by rw [eb]; exact so) (by rw [lz]; exact len) (fun b hb => ?_) fun out h1 h2 => ?_
  · have := (dp b.1 (by rw [← eb]; exact List.mem_map_of_mem hb)).1
    omega
  · obtain ⟨b1, b2⟩ := each_back h2
    have em : ((ds.zip vs).mergeSort (PySem.W.dataLe false Prod.fst)).map Prod.fst = sortD ds := by
      unfold sortD
      conv => rhs; rw [← eb]
      exact PySem.W.sort_maps Prod.fst fun a _ b _ => rfl
    rw [em] at b1
    obtain ⟨ep, at_⟩ := PyProof.Rows.sortedAll_at s.heap its (List.toArray out)
    have few : (((ds.zip vs).mergeSort (PySem.W.dataLe false Prod.fst)).map Prod.snd).length ≤ sizeLine := by
      rw [List.length_map, (List.mergeSort_perm _ _).length_eq, lz]
      exact len
    exact ⟨.ref _, upd H (s.heap.objs.size + 1) (.lst (((ds.zip vs).mergeSort (PySem.W.dataLe false Prod.fst)).map Prod.snd)), I.laid (t' := s.toks) (fun _ _ => PyProof.Rows.sortedAll_old) (Nat.le_succ _) ⟨few, _, ep, b2, at_⟩, rfl, q _ _ b1 (I.hok.fresh (Nat.le_succ _))⟩
end
end Gn

set_option Elab.async false
set_option linter.all false
set_option maxRecDepth 100000
set_option maxHeartbeats 4000000
-- a set made of a list of texts, counted
namespace GnS
open PySem L2 Gn
section
variable {P : Program} {w : World} {A : Around} {E : Value → Shared → Prop} {s : Shared}
theorem setOf_at {K : Type} [DecidableEq K] {knd : KeyKind P w K} {h h' : Heap} {a : Addr} {S : K → Bool} {n : Nat} (R : h.SetOf knd a S n) (k : ∀ o, h.get? a = some o → h'.get? a = some o) : h'.SetOf knd a S n := by
  obtain ⟨o, es, ep, t, ho, r⟩ := R
  exact ⟨o, es, ep, t, k o ho, r⟩
theorem set_update_strs {I : Addr} {fp wr : List Addr} {G : Array GenState → Array GenState → Prop} {n : Nat} {Pv : Nat → Value → Prop} {St : Nat → Shared → Prop} {R : Result → Shared → Prop}
    (W : WalksS P w A.in1 I fp wr G n Pv St) (S : Addr) (hSf : S ∉ fp) (xs : List Str) (hn : n = xs.length) (hb : xs.length + 1 < scanBound) (hval : ∀ i v, Pv i v → ∃ k t, xs[i]? = some k ∧ v = .str k t) :
    ∀ (k i : Nat) (s : Shared), n - i = k → i ≤ n → St i s → s.heap.SetOf (PySem.strKind P w) S (fun j => decide (j ∈ xs.take i)) (ddS (xs.take i)).length →
      (∀ s', Moved (S :: wr) G s s' → s'.heap.SetOf (PySem.strKind P w) S (fun j => decide (j ∈ xs)) (ddS xs).length → R (.ok (.ret .none)) s') →
      codeAny (model P w) A (.builtin "set.update.loop" ⟨[.ref S, .ref I], []⟩) R s := by
  have hSw : S ∉ wr := fun h => hSf (W.sub _ h)
  have hsub : ∀ b ∈ wr, b ∈ S :: wr := fun b hb => List.mem_cons_of_mem _ hb
  intro k
  induction k with
  | zero =>
    intro i s hk' hi hst hS hR
    have hin : i = n := by omega
    subst hin
    refine codeAny_builtin PyProof.Rows.F.entry_set_update_loop ?_
    rw [Around.under_plainId PyProof.Rows.F.plain_set_update_loop _]
    show wpAny _ A.in1 (pyNext (.ref I) >>= _) _ _ s
    refine wpAny_bind (W.done s _ _ hst fun s' hm => ?_)
    show wpAny _ A.in1 (ret Value.none) _ _ s'
    have e : xs.take i = xs := List.take_of_length_le (by omega)
    rw [e] at hS
    exact wpAny_pure (hR s' (hm.mono hsub) (setOf_at hS fun o e => hm.heap S o hSw e))
  | succ k ih =>
    intro i s hk' hi hst hS hR
    have hlt : i < n := by omega
    refine codeAny_builtin PyProof.Rows.F.entry_set_update_loop ?_
    rw [Around.under_plainId PyProof.Rows.F.plain_set_update_loop _]
    show wpAny _ A.in1 (pyNext (.ref I) >>= _) _ _ s
    refine wpAny_bind (W.item i s _ _ hlt hst fun v s' hP hst' hm => ?_)
    obtain ⟨z, t, hz, rfl⟩ := hval i v hP
    have hS' : s'.heap.SetOf (PySem.strKind P w) S (fun j => decide (j ∈ xs.take i)) (ddS (xs.take i)).length := setOf_at hS fun o e => hm.heap S o hSw e
    show wpAny _ A.in1 (holding [Value.str z t] (setAdd S (.str z t)) >>= _) _ _ s'
    refine wpAny_bind (wpAny_holding ?_)
    unfold setAdd
    refine wpAny_holding ?_
    refine wpAny_bind ((PySem.strKind P w).pyHash (k := z) (strKind_is _ _ _ _) ?_)
    have hc : (ddS (xs.take i)).length ≤ i := Nat.le_trans (ddS_len _) (by simp; omega)
    refine wpAny_setAddHashed_of (knd := PySem.strKind P w) (s := { s' with toks := s'.toks + 1 }) (strKind_is _ _ _ _) rfl hS' (by omega) fun h' hsb hS2 => ?_
    have hS3 : h'.SetOf (PySem.strKind P w) S (fun j => decide (j ∈ xs.take (i + 1))) (ddS (xs.take (i + 1))).length := by
      refine PyProof.Rows.SetOf_congr hS2 (fun j => ?_) ?_
      · rw [List.take_add_one, hz]
        simp [List.mem_append]
      · rw [List.take_add_one, hz]
        show _ = (ddS (xs.take i ++ [z])).length
        rw [ddS_snoc]
        by_cases m : z ∈ xs.take i
        · rw [if_pos ((ddS_mem _ _).mpr m), if_pos (decide_eq_true m)]
        · rw [if_neg fun h => m ((ddS_mem _ _).mp h), if_neg (by simp [m])]
          simp
    refine wpAny_pure ⟨plainId_quiet PyProof.Rows.F.plain_set_update_loop _, ih (i + 1) _ (by omega) hlt (W.frame _ s' _ _ hst' (Nat.le_succ _) fun b hb o e => ?_) hS3 fun s'' hm'' hS'' => ?_⟩
    · rw [hsb.2 b (fun h : b = S => hSf (by rw [← h]; exact hb))]; exact e
    · refine hR s'' (Moved.trans W.gtrans ((hm.mono hsub).then_heap (Nat.le_succ _) fun b o hb e => ?_) hm'') hS''
      rw [hsb.2 b (fun h : b = S => hb (by rw [h]; exact List.mem_cons_self))]; exact e
/-- what the loop leaves -/
def FedS (P : Program) (w : World) (S : Addr) (xs : List Str) (h0 : Heap) (s0 s2 : Shared) : Prop := ∃ h' tk, s2 = { s0 with heap := h', toks := tk } ∧ h'.SetOf (PySem.strKind P w) S (fun j => decide (j ∈ xs)) (ddS xs).length ∧ ∀ b o, h0.get? b = some o → h'.get? b = some o
theorem feedS {l : Addr} {us : Array Value} (xs : List Str) (calm : A.handled = none) (hl : s.heap.IsList l us) (hit : PyProof.Rows.StrsAre us.toList xs) (hb : xs.length + 1 < scanBound) :
    wpAny (model P w) A (Builtin.«set.__init__» ⟨[.ref s.heap.objs.size, .ref l], []⟩) (fun f s2 => f = .done (.ret .none) ∧ FedS P w s.heap.objs.size xs s.heap s s2) E { s with heap := s.heap.push (void w) } := by
  have len : us.size = xs.length := by rw [← PyProof.Rows.StrsAre.len_eq hit, Array.length_toList]
  obtain ⟨⟨oc, od, odt, osl⟩, at0, e1, nl, e2⟩ := hl
  dsimp only at e1 e2
  subst e1 e2
  have lt : l < s.heap.objs.size := Heap.lt_size at0
  have z1 : (s.heap.push (void w)).objs.size = s.heap.objs.size + 1 := Heap.size_push ..
  have at1 : (s.heap.push (void w)).get? l = some ⟨.type "list", od, .seq us nl, osl⟩ := Heap.get?_push_of_some _ at0
  have il : (s.heap.push (void w)).IsList l us := ⟨_, at1, rfl, nl, rfl⟩
  have s1 := F.sub_list_set
  have s2 := F.sub_list_frozenset
  have nd : (Value.type "list" == Value.type "dict") = false := rfl
  have vals : ∀ (i : Nat) (v : Value), us[i]? = some v → ∃ k t, xs[i]? = some k ∧ v = .str k t := by
    intro i v hv
    have hi : i < xs.length := len ▸ (Array.getElem?_eq_some_iff.mp hv).1
    obtain ⟨t, rfl⟩ := SS.strs_at hit i v (by simpa using hv)
    exact ⟨xs[i], t, List.getElem?_eq_getElem hi, by simp [List.getD_eq_getElem?_getD, hi]⟩
  unfold Builtin.«set.__init__» noKeywords Builtin.Frozenset.updateFrom
  generalize hI : pyIter = it
  wp_walk
  subst hI
  refine wpAny_pyIter_list il (wpAny_bind (wpAny_runValue ?_))
  have q1 : l ≠ (s.heap.push (void w)).objs.size := z1 ▸ Nat.ne_of_lt (Nat.lt_succ_of_lt lt)
  have q2 : A.in1.handled = none := by simp [calm]
  have apart : s.heap.objs.size ∉ [(s.heap.push (void w)).objs.size, l] := by
    rw [z1]
    intro z
    rcases List.mem_cons.mp z with z | z
    · exact Nat.ne_of_lt (Nat.lt_succ_self _) z
    · exact Nat.ne_of_gt lt (by simpa using z)
  refine set_update_strs (Walks.list q2 _ l q1 us).toS s.heap.objs.size apart xs len hb vals (us.size - 0) 0 _ rfl (Nat.zero_le _) ⟨⟨_, Heap.get?_push_size _ rfl, rfl, rfl⟩, il.push _⟩ ?first ?last
  case first =>
    exact PyProof.Rows.SetOf_congr ((PyProof.Rows.setObjOf_fresh (knd := PySem.strKind P w) (!w.params.followText "set-order")).setOf (Heap.get?_push_of_some _ (Heap.get?_push_size _ rfl)) (by unfold scanBound; omega)) (fun _ => by simp) rfl
  case last =>
    rintro ⟨h', g', d', tk', os'⟩ m R
    obtain rfl : g' = s.gens := m.gens
    obtain rfl : d' = s.drawn := m.drawn
    obtain rfl : os' = s.os := m.os
    refine wpAny_pure (wpAny_pure ⟨rfl, h', tk', rfl, R, fun b o e => m.heap b o ?_ (Heap.get?_push_of_some _ (Heap.get?_push_of_some _ e))⟩)
    have hb := Heap.lt_size e
    intro z
    rw [z1] at z
    rcases List.mem_cons.mp z with z | z
    · exact Nat.ne_of_lt hb z
    · exact Nat.ne_of_lt (Nat.lt_succ_of_lt hb) (by simpa using z)
theorem madeS {l : Addr} {us : Array Value} (xs : List Str) {Q : Value → Shared → Prop} (calm : A.handled = none) (hl : s.heap.IsList l us) (hit : PyProof.Rows.StrsAre us.toList xs) (hb : xs.length + 1 < scanBound)
    (h : ∀ (h' : Heap) (tk : Nat), h'.SetOf (PySem.strKind P w) s.heap.objs.size (fun j => decide (j ∈ xs)) (ddS xs).length → (∀ b o, s.heap.get? b = some o → h'.get? b = some o) → Q (.ref s.heap.objs.size) { s with heap := h', toks := tk }) :
    wpAny (model P w) A (call (.type "set") [.ref l]) Q E s := by
  have c0 := PySem.F.called_set
  obtain ⟨c, tl, m1⟩ := c0.mro
  have m2 := c0.made
  have m3 := c0.sub
  have m4 := c0.notType
  have m5 := c0.canCreate
  have m6 := F.typeCall_set_1 (.ref l)
  have m7 := c0.init.lookup
  refine wpAny_call (codeAny_of_tree (wpAny_pure ⟨Code.quiet_builtin _ (by decide +kernel), codeAny_builtin PySem.F.entry_type_call ?_⟩))
  rw [Around.under_plain (weight_type_call_type "set" [.ref l] []) rfl]
  repeat (any_goals (first | assumption | wp_step))

  refine codeAny_mono (code_set_led1 (.ref l) (E := E) (Q₁ := fun x t => x = .ref s.heap.objs.size ∧ t = { s with heap := s.heap.push (void w) }) ⟨rfl, rfl⟩) ?_
  rintro (_ | (x | _ | _ | _)) s1 z <;> first | exact z | exact z.elim | skip
  obtain ⟨rfl, rfl⟩ := z
  have at1 : (s.heap.push (void w)).get? s.heap.objs.size = some (void w) := Heap.get?_push_size _ rfl
  have ty : Shared.TypeIs { s with heap := s.heap.push (void w) } (.ref s.heap.objs.size) "set" := ⟨_, at1, rfl⟩
  have m8 := c0.init.bind (.ref s.heap.objs.size)
  repeat (any_goals (first | assumption | wp_step))

  refine codeAny_mono (codeAny_call_builtin (R := wants (fun r s2 => r = .none ∧ FedS P w s.heap.objs.size xs s.heap s s2) E) c0.init.plain PySem.F.entry_set_init (check_set_init_1 ty ?_)) ?_
  · refine wpAny_mono (feedS xs (by simp [calm]) hl hit hb) (fun f s2 hf => ?_) fun _ _ z => z
    obtain ⟨rfl, hf⟩ := hf
    exact ⟨rfl, hf⟩
  · rintro (_ | (x | _ | _ | _)) s2 z <;> first | exact z | exact z.elim | skip
    obtain ⟨rfl, h', tk, rfl, R, k⟩ := z
    repeat (any_goals (first | assumption | wp_step))
    exact h _ _ R k
end
end GnS
namespace Gn
open PySem PySem.Spec PyProof.Rows L2
variable [Tbls]
/-- the set of texts at a -/
def SetT (P : Program) (w : World) (a : Addr) (S : Str → Bool) (n : Nat) : HO := .ext fun h => h.SetOf (PySem.strKind P w) a S n
theorem setT_new {w : World} {P : Program} {H : Hp} {h : Heap} {a : Addr} {S : Str → Bool} {n : Nat} (R : h.SetOf (PySem.strKind P w) a S n) : ObjOk P w H h a (SetT P w a S n) := by
  have ⟨o, _, _, _, ho, _⟩ := R
  exact ⟨R, ⟨o, ho⟩, fun h1 h2 p k => GnS.setOf_at p k⟩
section
variable {X : Cx}
/-- set(xs) of a list of texts -/
def rSetT (P : Program) (K : PySem.W.Frag) (w : World) : List V → Hp → VK → Prop := fun xs H Q => ∃ (l : Addr) (ns : List Str), xs = [V.ref l] ∧ SqL K H l (ns.map V.str) ∧ ns.length < 4000 ∧ ∀ p, H p = none → Q (.ref p) (upd H p (SetT P w p (fun j => decide (j ∈ ns)) (ddS ns).length))
theorem cr_setT (hc : X.calm = true) : CallR X (.type "set") (rSetT X.prog X.K X.w) := by
  rintro pins s σ H xs us Q I r ⟨l, ns, rfl, hl, small, q⟩
  rw [Vals.ref1 r]
  obtain ⟨its, rv, pl, hz⟩ := I.list hl
  have room : ns.length + 1 < scanBound := by
    unfold scanBound
    omega
  refine GnS.madeS ns (I.ok.hd hc) pl.isList (by simpa using strsAre_of rv) room fun h' tk R keep => ?_
  exact ⟨.ref _, upd H s.heap.objs.size (SetT X.prog X.w s.heap.objs.size (fun j => decide (j ∈ ns)) (ddS ns).length), I.laid (t' := tk) (fun b u e => keep b u e) (Nat.le_refl _) (setT_new R), rfl, q _ (I.hok.fresh (Nat.le_refl _))⟩
def rSetX (P : Program) (K : PySem.W.Frag) (w : World) : List V → Hp → VK → Prop := fun xs H Q => rSetN K w xs H Q ∨ rSetT P K w xs H Q
theorem cr_setX (hc : X.calm = true) : CallR X (.type "set") (rSetX X.prog X.K X.w) := by
  rintro pins s σ H xs us Q I r (h | h)
  · exact cr_setN hc _ _ _ _ _ _ _ I r h
  · exact cr_setT hc _ _ _ _ _ _ _ I r h
def rLenT (P : Program) (w : World) : List V → Hp → VK → Prop := fun xs H Q => ∃ (a : Addr) (S : Str → Bool) (n : Nat), xs = [V.ref a] ∧ H a = some (SetT P w a S n) ∧ n < 5000 ∧ Q (.int n) H
theorem cr_lenT : CallR X (.builtin "len") (rLenT X.prog X.w) := by
  rintro pins s σ H xs us Q I r ⟨a, S, n, rfl, ha, hn, q⟩
  rw [Vals.ref1 r]
  have g : s.heap.SetOf (PySem.strKind X.prog X.w) a S n := (I.hok a _ ha).1
  obtain ⟨o, es, ep, t, ho, hex, hd, _, _, _, hf, sz⟩ := g
  exact call_len_set ho hex hd hf (by omega) ⟨.int n, H, I.tok _, ⟨_, by rw [sz]⟩, q⟩
def rLenX (P : Program) (w : World) : List V → Hp → VK → Prop := fun xs H Q => rLenS w xs H Q ∨ rLenT P w xs H Q
theorem cr_lenX : CallR X (.builtin "len") (rLenX X.prog X.w) := by
  rintro pins s σ H xs us Q I r (h | h)
  · exact cr_lenS _ _ _ _ _ _ _ I r h
  · exact cr_lenT _ _ _ _ _ _ _ I r h
end
end Gn

set_option Elab.async false
set_option linter.all false
set_option maxRecDepth 100000
set_option maxHeartbeats 4000000
-- list(reversed(x)), x a list
namespace RT
open PySem PySem.Spec PyProof.Rows L2
section
variable {prog : Program} {w : World} {A : Around} {s : Shared} {R : Result → Shared → Prop}
theorem init_rev {it l S : Addr} {items : Array Value} (hh : A.in1.handled = none) (hit : s.heap.IsRevIter it l ((items.size : Int) - 1)) (hl : s.heap.IsList l items) (hne : l ≠ it) (hn : items.size ≤ sizeLine) (hSi : S ≠ it) (hSl : S ≠ l)
    (hS : s.heap.get? S = some { cls := .type "list", data := .seq #[] })
    (hR : ∀ s' acc' c', s'.gens = s.gens → s'.drawn = s.drawn → s'.os = s.os → (∀ b o, b ≠ it → b ≠ S → s.heap.get? b = some o → s'.heap.get? b = some o) → s'.heap.get? S = some { cls := .type "list", dict := none, data := .seq acc' c', slots := #[] } → ItemsOf (fun i v => items[items.size - 1 - i]? = some v) acc' items.size → R (.ok (.ret .none)) s') :
    wpAny (model prog w) A.in1 (Builtin.«list.__init__» ⟨[.ref S, .ref it], []⟩)
      (fun fin s' => match fin with | .done f => R (.ok f) s' | .again c' => c'.quiet = true ∧ codeAny (model prog w) A c' R s') (fun e s' => R (.error e) s') s := by
  have W := (Walks.listRev (prog := prog) (w := w) (A := A.in1) hh it l hne items).toS
  have hSf : S ∉ [it, l] := by simp only [List.mem_cons, List.not_mem_nil, or_false, not_or]; exact ⟨hSi, hSl⟩
  show wpAny _ A.in1 (do let old ← Builtin.List.listItems (.ref S); Builtin.List.listUpdate (.ref S) (fun _ => #[]); letGo old.toList.reverse; Builtin.List.listExtendWith (.ref S) (.ref it) .none) _ _ s
  refine wpAny_bind ?_
  unfold Builtin.List.listItems
  refine wpAny_bind (wpAny_seqItems hS rfl (wpAny_pure ?_))
  show wpAny _ A.in1 (updateSeq S (fun _ => #[]) >>= fun _ => letGo (#[] : Array Value).toList.reverse >>= fun _ => Builtin.List.listExtendWith (.ref S) (.ref it) .none) _ _ s
  refine wpAny_bind (wpAny_updateSeq hS rfl ?_)
  have hS₂ := Heap.get?_update_self (Obj.mapSeq (fun _ => (#[] : Array Value))) hS rfl
  have oth : ∀ b o, b ≠ S → s.heap.get? b = some o → (s.heap.update S (Obj.mapSeq (fun _ => (#[] : Array Value)))).get? b = some o :=
    fun b o hb e => (Heap.get?_update_other _ _ (Ne.symm hb)).trans e
  refine wpAny_bind (wpAny_letGo ?_)
  generalize hh1 : s.heap.update S (Obj.mapSeq (fun _ => (#[] : Array Value))) = h1 at oth hS₂ ⊢
  have hit1 : h1.IsRevIter it l ((items.size : Int) - 1) := hit.at fun o e => oth it o (Ne.symm hSi) e
  have hl1 : h1.IsList l items := by
    obtain ⟨o, ho, r⟩ := hl
    exact ⟨o, oth l o (Ne.symm hSl) ho, r⟩
  have hT : ({ s with heap := h1 } : Shared).TypeIs (.ref it) "list_reverseiterator" := Heap.IsRevIter.typeIs (s := { s with heap := h1 }) hit1
  have q1 : Builtin.List.listSameRef (.ref S) (.ref it) = false := by simp [Builtin.List.listSameRef, hSi]
  unfold Builtin.List.listExtendWith
  refine wpAny_bind (wpAny_typeOf hT ?_)
  rw [if_neg (by rw [q1]; decide)]
  refine wpAny_bind (wpAny_pyIter_revIter (s := { s with heap := h1 }) hit1 ?_)
  refine wpAny_bind (wpAny_holding ?_)
  unfold Builtin.List.listLengthHint
  refine wpAny_bind (wpAny_specialOf hT nolen_lri ?_)
  show wpAny _ A.in1 (specialOf (Value.ref it) (Str.ofString "__length_hint__") >>= _) _ _ _
  refine wpAny_bind (wpAny_specialOf hT hint_lri ?_)
  generalize hid : ("list_reverseiterator.__length_hint__" : String) = id0
  wp_delta
  rw [show splitId id0 = some ("list_reverseiterator", "__length_hint__") from by subst hid; decide +kernel]
  subst hid
  refine wpAny_bind (wpAny_isInstance (b := true) hT (by rw [isSubtype_type]; kernel_rfl) ?_)
  refine wpAny_pure ?_
  rw [if_neg (by decide)]
  have e0 : ((items.size : Nat) : Int) - 1 - ((0 : Nat) : Int) = (items.size : Int) - 1 := by omega
  refine wpAny_pure ⟨plainId_quiet F.plain_extend_loop _, codeAny_extend_loopS W hn _ hSf _ items.size 0 _ _ _ rfl (Nat.zero_le _) ⟨Nat.zero_le _, by rw [e0]; exact hit1, hl1⟩ hS₂ (ItemsOf.nil _) fun s' acc' c' hm hS' hacc => ?_⟩
  refine hR s' acc' c' hm.gens hm.drawn hm.os (fun b o hb hb2 e => hm.heap b o (fun hmem => ?_) (oth b o hb2 e)) hS' hacc
  rcases List.mem_cons.mp hmem with e' | hmem
  · exact hb2 e'
  · exact hb (List.mem_singleton.mp hmem)
end
end RT
namespace RT
open PySem PySem.Spec PyProof.Rows L2
section
variable {prog : Program} {w : World} {A : Around} {E : Value → Shared → Prop} {s : Shared}
theorem call_list_rev {it l : Addr} {items : Array Value} {Q : Value → Shared → Prop} (hh : A.handled = none) (hit : s.heap.IsRevIter it l ((items.size : Int) - 1)) (hl : s.heap.IsList l items) (hne : l ≠ it) (hn : items.size ≤ sizeLine)
    (hQ : ∀ (h' : Heap) (tk : Nat) (acc : Array Value) (c : Nat), (∀ b o, b ≠ it → s.heap.get? b = some o → h'.get? b = some o) → h'.get? s.heap.objs.size = some { cls := .type "list", dict := none, data := .seq acc c, slots := #[] } → ItemsOf (fun i v => items[items.size - 1 - i]? = some v) acc items.size →
      Q (.ref s.heap.objs.size) { s with heap := h', toks := tk }) :
    wpAny (model prog w) A (call (.type "list") [.ref it]) Q E s := by
  refine callType_codes (Q₁ := fun obj s₁ => obj = .ref s.heap.objs.size ∧ s₁ = { s with heap := s.heap.push { cls := .type "list", data := .seq #[] } }) F.called_list (F.typeCall_list_1 _) F.entry_list_init
    (code_list_new _ ⟨rfl, rfl⟩) fun obj s₁ h₁ => ?_
  obtain ⟨rfl, rfl⟩ := h₁
  have hS : (s.heap.push { cls := .type "list", data := .seq #[] }).get? s.heap.objs.size = some { cls := .type "list", data := .seq #[] } := Heap.get?_push_size _ rfl
  obtain ⟨oi, hoi, _⟩ := id hit
  obtain ⟨ol, hol, _⟩ := id hl
  refine ⟨⟨_, hS, rfl⟩, F.args_list_init_2 _ _, init_rev (by simp [hh]) (hit.at fun o e => Heap.get?_push_of_some _ e) (hl.push _) hne hn (Nat.ne_of_gt (Heap.lt_size hoi)) (Nat.ne_of_gt (Heap.lt_size hol)) hS fun s' acc' c' h1 h2 h3 hk hS' hacc => ?_⟩
  obtain ⟨h', g', d', tk', os'⟩ := s'
  obtain rfl : g' = s.gens := h1
  obtain rfl : d' = s.drawn := h2
  obtain rfl : os' = s.os := h3
  exact ⟨rfl, hQ h' tk' acc' c' (fun b o hb e => hk b o hb (Nat.ne_of_lt (Heap.lt_size e)) (Heap.get?_push_of_some _ e)) hS' hacc⟩
end
end RT
namespace L2
open PySem PySem.Spec PyProof.Rows RT
/-- list(reversed(x)), x a list: a new list -/
def tListRev (K : PySem.W.Frag) (te : TE) : TE := fun σ H Q => te σ H fun v H1 => ∃ (a : Addr) (xs : List V), v = .ref a ∧ SqL K H1 a xs ∧ ∀ q, H1 q = none → Q (.ref q) (upd H1 q (.lst xs.reverse))
section
variable {X : Cx}
theorem pe_listRev {e : Expr} {te : TE} {p p2 pos pos2 : Pos} (hc : X.calm = true) (hg : Gl X "list") (hm : X.mg "list" = none) (hg2 : Gl X "reversed") (hm2 : X.mg "reversed" = none) (he : PE X e te)
    (hs : starEach [e] X.env = (false, eval e X.env) :: starEach [] X.env := by rfl)
    (hs2 : starEach [.Call (.Name "reversed" p2) [e] [] pos2] X.env = (false, eval (.Call (.Name "reversed" p2) [e] [] pos2) X.env) :: starEach [] X.env := by rfl) :
    PE X (.Call (.Name "list" p) [.Call (.Name "reversed" p2) [e] [] pos2] [] pos) (tListRev X.K te) := by
  refine ⟨fun pins s σ H Q I h => ?_⟩
  refine Call_ (ld_blt I hg hm boot_list (PyProof.Rows.callWith_type1 (args_cons (Call_ (ld_blt I hg2 hm2 PyProof.Rows.boot_reversed (PyProof.Rows.callWith_type1 (args_cons (thn (he.run pins s σ H _ I h) fun u s1 ⟨v, H1, I1, r1, q1⟩ => args_nil ?_) hs) hs rfl))) hs2) hs2 rfl))
  obtain ⟨a, xs, ev, hq, q⟩ := q1
  subst ev
  obtain rfl : u = Value.ref a := r1
  obtain ⟨its, rv, p', hz⟩ := I1.list hq
  refine call_reversed_list p'.isList (args_nil ?_)
  have k0 : ∀ b o, s1.heap.get? b = some o → (s1.heap.push (revObj a ((its.toArray.size : Int) - 1))).get? b = some o := fun b o e => Heap.get?_push_of_some _ e
  have I2 : Inv X pins σ H1 { s1 with heap := s1.heap.push (revObj a ((its.toArray.size : Int) - 1)) } := I1.kept (t' := s1.toks) k0
  have fp := I1.fpOk (H' := H1) (b := s1.heap.objs.size) (Nat.le_refl _) (I1.hok.fresh (Nat.le_refl _))
  have hl := p'.isList
  obtain ⟨ol, hol, _⟩ := id hl
  have hne : a ≠ s1.heap.objs.size := Nat.ne_of_lt (Heap.lt_size hol)
  have hn : its.toArray.size ≤ sizeLine := by rw [List.size_toArray, ← rv.length]; exact hz
  refine call_list_rev (s := { s1 with heap := s1.heap.push (revObj a ((its.toArray.size : Int) - 1)) }) (I1.ok.hd hc) ⟨_, Heap.get?_push_size _ rfl, rfl, rfl⟩ (hl.push _) hne hn fun h' tk acc c hk hS hi => ?_
  have I3 := I2.turnedNew (t' := tk) (h' := h') (ch := [s1.heap.objs.size]) (T := (s1.heap.push (revObj a ((its.toArray.size : Int) - 1))).objs.size) (ob := .lst xs.reverse) (fun b o hb e => hk b o (fun z => hb (by rw [z]; simp)) e) (fun b hb => by rw [List.mem_singleton.mp hb]; exact fp) (Nat.le_refl _)
    (show ObjOk X.prog X.w _ _ _ (.lst xs.reverse) from ⟨by rw [List.length_reverse]; exact hz, acc.toList, c, vals_rev rv hi, by rw [Array.toArray_toList]; exact hS⟩)
  exact ⟨.ref _, _, I3, rfl, q _ (I2.hok.fresh (Nat.le_refl _))⟩
end
end L2

set_option Elab.async false
set_option linter.all false
set_option maxRecDepth 100000
set_option maxHeartbeats 4000000
namespace Gn
open PySem PySem.Spec PyProof.Rows L2
variable [Tbls]

/-! ### max of a list of data -/
theorem sd_alike {ds : List D} (h : sdOk ds = true) : PySem.W.AlikeAll ds := by
  obtain ⟨al, so, _, _⟩ := sd_parts h
  refine ⟨fun x hx y hy => al x hx y hy, fun x hx => ?_⟩
  rcases so with so | so
  · obtain ⟨a, r, e⟩ := so x hx
    rw [e]
    exact fun z => nomatch z
  · exact (so x hx).1
theorem depthAll_le {n : Nat} : ∀ {ds : List D}, (∀ d ∈ ds, d.depth ≤ n) → PyData.depthAll ds ≤ n
  | [], _ => by simp [PyData.depthAll]
  | d :: ds, h => by
    have h1 := h d (by simp)
    have h2 := depthAll_le (ds := ds) fun x hx => h x (by simp [hx])
    simp only [PyData.depthAll]
    omega
section
variable {X : Cx}
theorem reads_all {pins : List (Addr × Obj)} {s : Shared} {σ : St} {H H0 : Hp} (I : Inv X pins σ H s) (hs : Sub H0 H) : ∀ {ds : List D} {vs : List V} {its : List Value}, Reps X.K H0 ds vs → Vals vs its → (∀ d ∈ ds, nd d = true) → ∃ as, PySem.ReadsAll s.heap its ds as
  | _, _, _, .nil, .nil, _ => ⟨_, .nil⟩
  | _, _, _, .cons h r, .cons a b, n => by
    obtain ⟨as, e⟩ := reads_all I hs r b fun d hd => n d (List.mem_cons_of_mem _ hd)
    obtain ⟨as1, e1⟩ := Dp.reads I _ _ _ ((h.sub hs).dp (n _ List.mem_cons_self)) a
    exact ⟨_, .cons e1 e⟩
theorem cr_maxD {pins : List (Addr × Obj)} {s : Shared} {σ : St} {H H0 : Hp} {a : Addr} {d : D} {ds : List D} {vs : List V} {Q : VK} (I : Inv X pins σ H s) (hc : X.calm = true) (hu : X.A.units + 65 < cLine) (h : SqL X.K H a vs) (hs : Sub H0 H) (r : Reps X.K H0 (d :: ds) vs) (ok : sdOk (d :: ds) = true)
    (q : ∀ v, Rep X.K H0 (PySem.W.maxD d ds) v → Q v H) : wpAny (model X.prog X.w) X.A (call (.builtin "max") [.ref a]) (EP X pins σ Q) X.xe s := by
  obtain ⟨_, _, len, dp⟩ := sd_parts ok
  have hh : X.A.handled = none := I.ok.hd hc
  obtain ⟨its, rv, hl, hz⟩ := I.list h
  obtain ⟨as, ra⟩ := reads_all I hs r rv fun x hx => (dp x hx).2
  have hda : PyData.depthAll (d :: ds) ≤ 50 := depthAll_le fun x hx => (dp x hx).1
  have lv := r.length
  have li := rv.length
  refine PySem.call_max_walkH (PySem.W.iter_listW (A := X.A.in1) hh hl.isList fun s₂ e W st hfp hw hk => ?_)
  refine ⟨_, _, _, _, _, _, _, s.heap, _, rfl, W, st, hfp, by simp at lv ⊢; omega, hw, hk, PySem.W.cmpIn_gt (A := X.A.in1) ra (sd_alike ok) (by show X.A.units + 1 + _ < _; omega), fun v s' hP m => ?_⟩
  obtain ⟨h', tk, rfl, hk'⟩ := PySem.W.moved_old e rfl m
  have e1 : its.toArray.size - 1 = ds.length := by simp at lv ⊢; omega
  obtain ⟨b1, b2⟩ := PySem.W.argBest_fold (fun a b => PySem.W.dataLt b a) PyData.none d ds ds.length (Nat.le_refl _)
  rw [List.take_length] at b2
  rw [e1] at hP
  generalize argBest (fun i j => PySem.W.dataLt ((d :: ds).getD j .none) ((d :: ds).getD i .none)) ds.length = k at *
  have gk : (d :: ds)[k]? = some (PySem.W.maxD d ds) := by
    have : k < (d :: ds).length := by simp; omega
    rw [List.getElem?_eq_getElem this]
    congr 1
    rw [List.getD_eq_getElem?_getD, List.getElem?_eq_getElem this] at b2
    exact b2
  obtain ⟨w, ew, rw'⟩ := r.get gk
  obtain ⟨u, eu, ru⟩ := rv.get ew
  have : v = u := by
    have hP : its.toArray[k]? = some v := hP
    rw [List.getElem?_toArray, eu] at hP
    exact (Option.some.inj hP).symm
  subst this
  exact ⟨w, H, I.kept hk', ru, q w rw'⟩
end
end Gn

set_option Elab.async false
set_option linter.all false
set_option maxRecDepth 100000
set_option maxHeartbeats 4000000
namespace Gn
open PySem PySem.Spec PyProof.Rows L2
variable [Tbls]

def BI.val : BI → Value
  | .len => .builtin "len"
  | .int => .type "int"
  | .abs => .builtin "abs"
  | .str => .type "str"
  | .list => .type "list"
  | .tuple => .type "tuple"
  | .sorted => .builtin "sorted"
  | .maxD => .builtin "max"
  | .sortedD => .builtin "sorted"
  | .sortedR => .builtin "sorted"
  | .sum => .builtin "sum"
  | .all => .builtin "all"
  | .any => .builtin "any"
  | .max2 => .builtin "max"
  | .min2 => .builtin "min"
  | .max1 => .builtin "max"
  | .min1 => .builtin "min"
def BI.kw : BI → List (Str × Value)
  | .sortedR => [(Str.ofString "reverse", .bool true)]
  | _ => []
def rBI (K : PySem.W.Frag) (calm : Bool) (b : BI) : List V → Hp → VK → Prop := fun vs H Q => ∃ hid ds, HidOk H hid ∧ Reps K (hide H hid) ds vs ∧ ROut K H hid (biD calm b ds) Q
theorem strOf_ok {i : Int} (h : i.natAbs.log2 < 1920) : StrOk (strOf i) := by
  refine ⟨int_text_fits h, fun c hc => ?_⟩
  have := mt (int_text_free' c · i) (fun z => z hc)
  omega
theorem vals1' {v : V} {us : List Value} (r : Vals [v] us) : ∃ u, us = [u] ∧ RelV v u := by
  cases r with
  | cons a b => cases b; exact ⟨_, rfl, a⟩
theorem vals2' {v w : V} {us : List Value} (r : Vals [v, w] us) : ∃ u1 u2, us = [u1, u2] ∧ RelV v u1 ∧ RelV w u2 := by
  cases r with
  | cons a b => cases b with
    | cons c d => cases d; exact ⟨_, _, rfl, a, c⟩
theorem foldl_max_mem (ns : List Int) : ∀ n : Int, (ns.foldl (fun a b => if b > a then b else a) n) ∈ n :: ns ∧ ∀ y ∈ n :: ns, y ≤ ns.foldl (fun a b => if b > a then b else a) n := by
  induction ns with
  | nil => intro n; simp
  | cons m ns ih =>
    intro n
    rw [List.foldl_cons]
    obtain ⟨h1, h2⟩ := ih (if m > n then m else n)
    refine ⟨?_, fun y hy => ?_⟩
    · rcases List.mem_cons.mp h1 with e | e
      · rw [e]
        by_cases c : m > n
        · rw [if_pos c]; simp
        · rw [if_neg c]; simp
      · simp [e]
    · have a := h2 _ List.mem_cons_self
      rcases List.mem_cons.mp hy with e | e
      · rw [e]
        by_cases c : m > n
        · rw [if_pos c] at a ⊢; omega
        · rw [if_neg c] at a ⊢; exact a
      · rcases List.mem_cons.mp e with e | e
        · rw [e]
          by_cases c : m > n
          · rw [if_pos c] at a ⊢; exact a
          · rw [if_neg c] at a ⊢; omega
        · exact h2 y (by simp [e])
theorem foldl_min_mem (ns : List Int) : ∀ n : Int, (ns.foldl (fun a b => if b < a then b else a) n) ∈ n :: ns ∧ ∀ y ∈ n :: ns, ns.foldl (fun a b => if b < a then b else a) n ≤ y := by
  induction ns with
  | nil => intro n; simp
  | cons m ns ih =>
    intro n
    rw [List.foldl_cons]
    obtain ⟨h1, h2⟩ := ih (if m < n then m else n)
    refine ⟨?_, fun y hy => ?_⟩
    · rcases List.mem_cons.mp h1 with e | e
      · rw [e]
        by_cases c : m < n
        · rw [if_pos c]; simp
        · rw [if_neg c]; simp
      · simp [e]
    · have a := h2 _ List.mem_cons_self
      rcases List.mem_cons.mp hy with e | e
      · rw [e]
        by_cases c : m < n
        · rw [if_pos c] at a ⊢; omega
        · rw [if_neg c] at a ⊢; exact a
      · rcases List.mem_cons.mp e with e | e
        · rw [e]
          by_cases c : m < n
          · rw [if_pos c] at a ⊢; exact a
          · rw [if_neg c] at a ⊢; omega
        · exact h2 y (by simp [e])
theorem rbind {K : PySem.W.Frag} {H : Hp} {hid : List Addr} {Q : VK} {α : Type} {o : Option α} {f : α → R T} (h : ROut K H hid (do let a ← R.of o; f a) Q) : ∃ a, o = some a ∧ ROut K H hid (f a) Q := by
  cases o with
  | none => exact h.elim
  | some a => exact ⟨a, rfl, h⟩
theorem rite {K : PySem.W.Frag} {H : Hp} {hid : List Addr} {Q : VK} {c : Prop} [Decidable c] {r : R T} (h : ROut K H hid (if c then r else .no) Q) : c ∧ ROut K H hid r Q := by
  by_cases z : c
  · rw [if_pos z] at h; exact ⟨z, h⟩
  · rw [if_neg z] at h; exact h.elim
section
variable {X : Cx}
theorem cr_bi (hu : X.A.units + 65 < cLine) {calm : Bool} (hc : calm = true → X.calm = true) (b : BI) {pins : List (Addr × Obj)} {s : Shared} {σ : St} {H : Hp} {vs : List V} {us : List Value} {Q : VK} (I : Inv X pins σ H s) (r : Vals vs us) (h : rBI X.K calm b vs H Q) :
    wpAny (model X.prog X.w) X.A (call b.val us b.kw) (EP X pins σ Q) X.xe s := by
  obtain ⟨hid, ds, ho, hd, h⟩ := h
  have no : ∀ {P : Prop}, ROut X.K H hid .no Q → P := fun z => z.elim
  have vis : ∀ {a xs}, SqL X.K (hide H hid) a xs → SqL X.K H a xs := fun z => sqL_sub (hide_sub _ _) z
  have visT : ∀ {a xs}, SqT X.K (hide H hid) a xs → SqT X.K H a xs := fun z => sqT_sub (hide_sub _ _) z
  cases hd with
  | nil => cases b <;> exact no h
  | cons d1 rest =>
    cases rest with
    | nil =>
      cases b with
      | len =>
        cases d1 with
        | lst ha ra => exact call_len_seq pins s σ H _ us Q I r ⟨_, _, rfl, .inl (vis ha), by rw [ra.length]; exact Out.fz h (.int _)⟩
        | tup ha ra => exact call_len_seq pins s σ H _ us Q I r ⟨_, _, rfl, .inr (visT ha), by rw [ra.length]; exact Out.fz h (.int _)⟩
        | str z hz => exact call_len_str pins s σ H _ us Q I r ⟨z, rfl, hz.1, Out.fz h (.int _)⟩
        | _ => exact no h
      | int =>
        cases d1 with
        | int i => exact call_int1 pins s σ H _ us Q I r (.inl ⟨i, rfl, Out.fz h (.int _)⟩)
        | bl k => exact call_int1 pins s σ H _ us Q I r (.inr ⟨k, rfl, Out.fz h (.int _)⟩)
        | str z hz =>
          obtain ⟨c, h⟩ := rite (show ROut X.K H hid (if z.length ≤ 640 then (do return .fz (.int (← R.of (PySem.intText? z)))) else .no) Q from h)
          obtain ⟨n, e, h⟩ := rbind h
          exact call_int_str pins s σ H _ us Q I r ⟨z, n, rfl, e, c, Out.fz h (.int _)⟩
        | _ => exact no h
      | abs =>
        cases d1 with
        | int i => exact call_abs pins s σ H _ us Q I r ⟨i, rfl, Out.fz h (.int _)⟩
        | _ => exact no h
      | str =>
        cases d1 with
        | int i =>
          obtain ⟨c, h⟩ := rite (show ROut X.K H hid (if i.natAbs.log2 < 1920 then .ok (.fz (.str (strOf i))) else .no) Q from h)
          exact call_str_int pins s σ H _ us Q I r ⟨i, rfl, c, Out.fz h (.str _ (strOf_ok c))⟩
        | non =>
          obtain ⟨u, rfl, ru⟩ := vals1' r
          obtain rfl : u = Value.none := ru
          exact PySem.P.str_of_none ⟨.str _, H, I.tok _, ⟨_, rfl⟩, Out.fz h (.str _ ⟨by rw [sizeLine_eq]; decide, by decide⟩)⟩
        | bl b =>
          obtain ⟨u, rfl, ru⟩ := vals1' r
          obtain rfl : u = Value.bool b := ru
          exact PySem.P.str_of_bool ⟨.str _, H, I.tok _, ⟨_, rfl⟩, Out.fz h (.str _ ⟨by rw [sizeLine_eq]; cases b <;> decide, by cases b <;> decide⟩)⟩
        | str x hx =>
          obtain ⟨u, rfl, t, rfl⟩ := vals1' r
          exact PySem.P.str_of_str ⟨.str x, H, I, ⟨t, rfl⟩, Out.fz h (.str x hx)⟩
        | _ => exact no h
      | list =>
        cases d1 with
        | lst ha ra => exact call_list_of pins s σ H _ us Q I r ⟨_, _, rfl, .inl (vis ha), fun l hl => Out.lst ho h ra hl⟩
        | tup ha ra => exact call_list_of pins s σ H _ us Q I r ⟨_, _, rfl, .inr (visT ha), fun l hl => Out.lst ho h ra hl⟩
        | _ => exact no h
      | tuple =>
        cases d1 with
        | lst ha ra => exact call_tuple_of pins s σ H _ us Q I r ⟨_, _, rfl, .inl ⟨vis ha, fun l hl => Out.tup ho h ra hl⟩⟩
        | tup ha ra => exact call_tuple_of pins s σ H _ us Q I r ⟨_, _, rfl, .inr ⟨visT ha, Out.fz h (.tup ha ra)⟩⟩
        | _ => exact no h
      | sorted =>
        cases d1 with
        | lst ha ra =>
          obtain ⟨ns, e, h⟩ := rbind h
          obtain ⟨u, rfl, ru⟩ := vals1' r
          cases ru
          exact cr_sortS I (.inl (vis (sqL_ints ha ra e))) fun p hp => Out.lst ho h (Reps.of_ints _) hp
        | tup ha ra =>
          obtain ⟨ns, e, h⟩ := rbind h
          obtain ⟨u, rfl, ru⟩ := vals1' r
          cases ru
          exact cr_sortS I (.inr (visT (sqT_ints ha ra e))) fun p hp => Out.lst ho h (Reps.of_ints _) hp
        | _ => exact no h
      | maxD =>
        cases d1 with
        | @lst _ _ ds1 ha ra =>
          obtain ⟨u, rfl, ru⟩ := vals1' r
          cases ru
          obtain ⟨c, h⟩ := rite (show ROut X.K H hid (if calm = true then maxDD ds1 else .no) Q from h)
          cases ds1 with
          | nil => exact no h
          | cons d ds1 =>
            have h : ROut X.K H hid (if sdOk (d :: ds1) = true then R.ok (T.fz (PySem.W.maxD d ds1)) else R.no) Q := h
            obtain ⟨ok, h⟩ := rite h
            exact cr_maxD I (hc c) hu (vis ha) (hide_sub _ _) ra ok fun v r' => Out.fz h r'
        | _ => exact no h
      | sortedD =>
        cases d1 with
        | lst ha ra =>
          obtain ⟨u, rfl, ru⟩ := vals1' r
          cases ru
          rename_i vs1 ds1
          by_cases ok : sdOk ds1 = true
          · have h : ROut X.K H hid (if sdOk ds1 = true then R.ok (T.lst (fzs (sortD ds1))) else R.no) Q := h
            rw [if_pos ok] at h
            exact cr_sortD I hu (vis ha) (hide_sub _ _) ra ok fun vs' p r' hp => Out.lst ho h r' hp
          · have h : ROut X.K H hid (if sdOk ds1 = true then R.ok (T.lst (fzs (sortD ds1))) else R.no) Q := h
            rw [if_neg ok] at h
            exact no h
        | _ => exact no h
      | sortedR =>
        cases d1 with
        | lst ha ra =>
          obtain ⟨ns, e, h⟩ := rbind h
          obtain ⟨u, rfl, ru⟩ := vals1' r
          cases ru
          exact cr_sortR I (.inl (vis (sqL_ints ha ra e))) fun p hp => Out.lst ho h (Reps.of_ints _) hp
        | tup ha ra =>
          obtain ⟨ns, e, h⟩ := rbind h
          obtain ⟨u, rfl, ru⟩ := vals1' r
          cases ru
          exact cr_sortR I (.inr (visT (sqT_ints ha ra e))) fun p hp => Out.lst ho h (Reps.of_ints _) hp
        | _ => exact no h
      | sum =>
        cases d1 with
        | lst ha ra =>
          obtain ⟨c, h⟩ := rite (show ROut X.K H hid (if calm = true then (do return .fz (.int (← R.of (intsOf _)).sum)) else .no) Q from h)
          obtain ⟨ns, e, h⟩ := rbind h
          exact cr_sum (hc c) pins s σ H _ us Q I r ⟨_, ns, rfl, vis (sqL_ints ha ra e), Out.fz h (.int _)⟩
        | _ => exact no h
      | all =>
        cases d1 with
        | lst ha ra =>
          obtain ⟨c, h⟩ := rite (show ROut X.K H hid (if calm = true then (do return .fz (.bool ((← R.of (boolsOf _)).all id))) else .no) Q from h)
          obtain ⟨ns, e, hq⟩ := rbind h
          have e2 := boolsOf_some e
          clear h
          subst e2
          have e3 := ra.bls
          subst e3
          exact cr_all (hc c) pins s σ H _ us Q I r ⟨_, ns, rfl, vis ha, Out.fz hq (.bl _)⟩
        | _ => exact no h
      | any =>
        cases d1 with
        | lst ha ra =>
          obtain ⟨c, h⟩ := rite (show ROut X.K H hid (if calm = true then (do return .fz (.bool ((← R.of (boolsOf _)).any id))) else .no) Q from h)
          obtain ⟨ns, e, hq⟩ := rbind h
          have e2 := boolsOf_some e
          clear h
          subst e2
          have e3 := ra.bls
          subst e3
          exact cr_any (hc c) pins s σ H _ us Q I r ⟨_, ns, rfl, vis ha, Out.fz hq (.bl _)⟩
        | _ => exact no h
      | max1 =>
        cases d1 with
        | lst ha ra =>
          obtain ⟨c, h⟩ := rite (show ROut X.K H hid (if calm = true then (do return .fz (.int (← R.of (maxL (← R.of (intsOf _)))))) else .no) Q from h)
          obtain ⟨ns, e, h⟩ := rbind h
          cases ns with
          | nil => exact no h
          | cons n ns =>
            obtain ⟨m1, m2⟩ := foldl_max_mem ns n
            refine cr_max (hc c) pins s σ H _ us Q I r ⟨_, n :: ns, rfl, vis (sqL_ints ha ra e), by simp, fun m h1 h2 => ?_⟩
            have em : m = ns.foldl (fun a b => if b > a then b else a) n := Int.le_antisymm (m2 m h1) (h2 _ m1)
            rw [em]
            exact Out.fz h (.int _)
        | _ => exact no h
      | min1 =>
        cases d1 with
        | lst ha ra =>
          obtain ⟨c, h⟩ := rite (show ROut X.K H hid (if calm = true then (do return .fz (.int (← R.of (minL (← R.of (intsOf _)))))) else .no) Q from h)
          obtain ⟨ns, e, h⟩ := rbind h
          cases ns with
          | nil => exact no h
          | cons n ns =>
            obtain ⟨m1, m2⟩ := foldl_min_mem ns n
            refine cr_min (hc c) pins s σ H _ us Q I r ⟨_, n :: ns, rfl, vis (sqL_ints ha ra e), by simp, fun m h1 h2 => ?_⟩
            have em : m = ns.foldl (fun a b => if b < a then b else a) n := Int.le_antisymm (h2 _ m1) (m2 m h1)
            rw [em]
            exact Out.fz h (.int _)
        | _ => exact no h
      | _ => cases d1 <;> exact no h
    | cons d2 rest =>
      cases rest with
      | nil =>
        cases b with
        | max2 =>
          cases d1 with
          | int i => cases d2 with
            | int j =>
              obtain ⟨c, h⟩ := rite (show ROut X.K H hid (if calm = true then .ok (.fz (.int (if j > i then j else i))) else .no) Q from h)
              exact call_max2 (hc c) pins s σ H _ us Q I r ⟨i, j, rfl, Out.fz h (.int _)⟩
            | _ => exact no h
          | _ => cases d2 <;> exact no h
        | min2 =>
          cases d1 with
          | int i => cases d2 with
            | int j =>
              obtain ⟨c, h⟩ := rite (show ROut X.K H hid (if calm = true then .ok (.fz (.int (if j < i then j else i))) else .no) Q from h)
              exact call_min2 (hc c) pins s σ H _ us Q I r ⟨i, j, rfl, Out.fz h (.int _)⟩
            | _ => exact no h
          | _ => cases d2 <;> exact no h
        | _ => cases d1 <;> cases d2 <;> exact no h
      | cons d3 rest => cases b <;> cases d1 <;> cases d2 <;> cases d3 <;> exact no h

/-! ### truth -/
theorem truV_of {K : PySem.W.Frag} {H : Hp} {d : D} {v : V} {b : Bool} (r : Rep K H d v) (h : truD d = .ok b) : TruV K v H b := by
  cases r with
  | non => cases h; rfl
  | bl c => cases h; rfl
  | int i => cases h; rfl
  | str x hx =>
    cases h
    refine ⟨hx.1, ?_⟩
    cases e : x.length <;> simp [e]
    omega
  | lst ha ra =>
    cases h
    refine .inl ⟨_, ha, ?_⟩
    cases ra <;> rfl
  | dct _ => cases h
  | tup ha ra =>
    cases h
    refine .inr (.inl ⟨_, ha, ?_⟩)
    cases ra <;> rfl

/-! ### subscripts, slices -/
theorem atI_rep {K : PySem.W.Frag} {H : Hp} {ds : List D} {vs : List V} {i : Int} {d : D} (r : Reps K H ds vs) (e : atI ds i = some d) : ∃ v, atI vs i = some v ∧ Rep K H d v := by
  unfold atI at e ⊢
  rw [r.length]
  cases q : ixN ds.length i with
  | none => rw [q] at e; cases e
  | some j =>
    rw [q] at e
    exact r.get e
def rIdx (K : PySem.W.Frag) : R2 := fun x y H Q => ∃ hid d e, HidOk H hid ∧ Rep K (hide H hid) d x ∧ Rep K (hide H hid) e y ∧ ROut K H hid (idxD d e) Q
theorem mem_atI {α : Type} {xs : List α} {i : Int} {c : α} (h : atI xs i = some c) : c ∈ xs := by
  unfold atI at h
  cases q : ixN xs.length i with
  | none => rw [q] at h; cases h
  | some j => rw [q] at h; exact List.mem_of_getElem? h
theorem ix_idx : IxR X (rIdx X.K) := by
  intro value slice pins s σ H x y v u Q I rx ry ⟨hid, d, e, ho, hd, he, h⟩ hs
  have no : ∀ {P : Prop}, ROut X.K H hid .no Q → P := fun z => z.elim
  cases he with
  | int i =>
    cases hd with
    | lst ha ra =>
      obtain ⟨d2, e2, h⟩ := rbind h
      obtain ⟨w, e3, r3⟩ := atI_rep ra e2
      exact ix_list value slice pins s σ H _ _ v u Q I rx ry ⟨_, _, i, w, rfl, rfl, sqL_sub (hide_sub _ _) ha, e3, Out.fz h r3⟩ hs
    | tup ha ra =>
      obtain ⟨d2, e2, h⟩ := rbind h
      obtain ⟨w, e3, r3⟩ := atI_rep ra e2
      exact ix_tup value slice pins s σ H _ _ v u Q I rx ry ⟨_, _, i, w, rfl, rfl, sqT_sub (hide_sub _ _) ha, e3, Out.fz h r3⟩ hs
    | str z hz =>
      obtain ⟨c, e2, h⟩ := rbind h
      refine ix_str value slice pins s σ H _ _ v u Q I rx ry ⟨z, i, c, rfl, rfl, hz.1, e2, Out.fz h (.str _ ⟨?_, fun k hk => ?_⟩)⟩ hs
      · show 1 ≤ sizeLine
        rw [sizeLine_eq]
        omega
      · have e3 : k = c := by simpa using hk
        rw [e3]
        exact hz.2 c (mem_atI e2)
    | _ => exact no h
  | _ => cases hd <;> exact no h
def rSli (K : PySem.W.Frag) : V → Option Int → Option Int → Hp → VK → Prop := fun x lo hi H Q => ∃ hid d, HidOk H hid ∧ Rep K (hide H hid) d x ∧ ROut K H hid (sliD d lo hi) Q
theorem Reps.cut {K : PySem.W.Frag} {H : Hp} {ds : List D} {vs : List V} (r : Reps K H ds vs) (lo hi : Option Int) : Reps K H (cutL ds lo hi) (cutV vs lo hi) := by
  unfold cutL cutV
  rw [r.length]
  exact (r.drop _).take _
theorem cutL_len {α : Type} (xs : List α) (lo hi : Option Int) : (cutL xs lo hi).length ≤ xs.length := by
  unfold cutL
  rw [List.length_take, List.length_drop]
  omega
theorem cutL_mem {α : Type} {xs : List α} {lo hi : Option Int} {x : α} (h : x ∈ cutL xs lo hi) : x ∈ xs := List.mem_of_mem_drop (List.mem_of_mem_take h)
end
end Gn

set_option Elab.async false
set_option linter.all false
set_option maxRecDepth 100000
set_option maxHeartbeats 4000000
namespace Gn
open PySem PySem.Spec PyProof.Rows L2
variable [Tbls]

/-! ### what a term's value is worth -/
/-- the program's exception classes: their addresses, their fields in the order in which they are stored -/
structure Cl where
  ca : Nat → Addr
  cf : Nat → List Str
  xa : Addr := 0
  xd : Addr := 0
  xs : Nat := 0
  T : List (Addr × Str) := []
def ExR (K : PySem.W.Frag) (cl : Cl) (H : Hp) (hid : List Addr) (c : Nat) (fs : List D) (d : Addr) : Prop := ∃ vs, H d = some (.xd ((cl.cf c).zip vs).reverse) ∧ Reps K (hide H hid) fs vs
def POut {α β : Type} (K : PySem.W.Frag) (cl : Cl) (σ : St) (H : Hp) (hid : List Addr) (W : WX) (O : Hp → α → (β → Hp → Prop) → Prop) (r : R α) (Q : β → Hp → Prop) : Prop := match r with
  | .ok t => O H t Q
  | .ex c fs => ∀ H' d, Ext H H' → ExR K cl H' hid c fs d → W (.ref (cl.ca c)) (some d) σ H'
  | .no => False
/-- one value, hid hidden -/
abbrev O1 (K : PySem.W.Frag) (hid : List Addr) (H : Hp) (t : T) (Q : VK) : Prop := Out K H hid t Q
/-- several values -/
def Os (K : PySem.W.Frag) (hid : List Addr) (H : Hp) (ts : List T) (Q : List V → Hp → Prop) : Prop := ∀ vs H' fp, Ext H H' → (∀ a ∈ fp, H a = none) → Owns K H' (fp ++ hid) ts vs fp → Q vs H'
/-- a plain answer, the heap may have grown -/
def Ob {α : Type} (H : Hp) (b : α) (Q : α → Hp → Prop) : Prop := ∀ H', Ext H H' → Q b H'
/-- the exception that a suite holds: in its slot, its fields to be read -/
structure XR (G : Gam) (cl : Cl) (K : PySem.W.Frag) (H : Hp) (hid : List Addr) (σ : St) : Prop where
  tb : TabsH H
  hx : ∀ c fs, G.hx = some (c, fs) → σ[cl.xs]? = some (some (.ref cl.xa)) ∧ ExR K cl H hid c fs cl.xd
/-- .. all but what stands at fp -/
structure ExtB (fp : List Addr) (H H' : Hp) : Prop where
  keep : ∀ a o, H a = some o → a ∉ fp → KeepO H' a o
  tab : TabsH H → TabsH H'
instance {fp : List Addr} {H H' : Hp} : CoeFun (ExtB fp H H') fun _ => ∀ a o, H a = some o → a ∉ fp → KeepO H' a o := ⟨fun s => s.keep⟩
theorem ExtB.ext {H H' : Hp} (k : ExtB [] H H') : Ext H H' := ⟨fun a o e => k.keep a o e (fun z => nomatch z), k.tab⟩
theorem TabS.mut {H H' : Hp} {P : Addr} {q : Str} (k : ∀ a o, H a = some o → MutO o = false → H' a = some o) (t : LamX.TabS H P q) : LamX.TabS H' P q := by
  obtain ⟨ps, h1, h2, h3⟩ := t
  refine ⟨ps, k _ _ h1 rfl, h2, fun pos cv hc => ?_⟩
  obtain ⟨c, e1, e2⟩ := h3 pos cv hc
  exact ⟨c, e1, k _ _ e2 rfl⟩
theorem Tabs.mut {H H' : Hp} {T : List (Addr × Str)} (k : ∀ a o, H a = some o → MutO o = false → H' a = some o) (t : LamX.Tabs T H) : LamX.Tabs T H' := fun p hp => TabS.mut k (t p hp)
theorem upd_mut {H : Hp} {D : Addr} {xs ys : List V} (e : H D = some (.lst xs)) : ∀ a o, H a = some o → MutO o = false → upd H D (.lst ys) a = some o := fun a o h m => by
  rw [upd_ne]
  · exact h
  · rintro rfl
    rw [e] at h
    cases h
    cases m
theorem Ext.updL {H1 H : Hp} {D : Addr} {xs ys : List V} (s : Ext H1 H) (hD : H1 D = none) (e : H D = some (.lst xs)) : Ext H1 (upd H D (.lst ys)) :=
  ⟨fun a o h => (s a o h).eq (upd_ne (ne_of_none h hD)), fun t => Tabs.mut (upd_mut e) (s.tab t)⟩
theorem TabS.hide {H : Hp} {l : List Addr} {P : Addr} {q : Str} (ho : HidOk H l) (t : LamX.TabS H P q) : LamX.TabS (hide H l) P q := TabS.mut (fun a o e m => by
  rw [hide_out]
  · exact e
  · intro z
    obtain ⟨u, e2, m2⟩ := ho a z
    rw [e] at e2
    cases e2
    rw [m] at m2
    cases m2) t
theorem TabS.show {H : Hp} {l : List Addr} {P : Addr} {q : Str} (t : LamX.TabS (Gn.hide H l) P q) : LamX.TabS H P q := t.ext fun a o e => (hide_some e).2
theorem Tabs.hide {H : Hp} {l : List Addr} {T : List (Addr × Str)} (ho : HidOk H l) (t : LamX.Tabs T H) : LamX.Tabs T (Gn.hide H l) := fun p hp => TabS.hide ho (t p hp)
theorem Tabs.show {H : Hp} {l : List Addr} {T : List (Addr × Str)} (t : LamX.Tabs T (Gn.hide H l)) : LamX.Tabs T H := fun p hp => TabS.show (t p hp)
theorem hide_ext (H : Hp) (l : List Addr) : Ext (hide H l) H := ⟨hide_sub H l, fun t => Tabs.show t⟩
theorem Ext.tabs {H H' : Hp} (s : Ext H H') (t : TabsH H) : TabsH H' := s.tab t
structure VR (G : Gam) (cl : Cl) (K : PySem.W.Frag) (H : Hp) (hid : List Addr) (ρ : Rho) (σ : St) : Prop where
  len : ρ.length = σ.length
  x : XR G cl K H hid σ
  get : ∀ (i : Nat) (t : T), ρ[i]? = some (some t) → ∃ v, σ[i]? = some (some v) ∧ Rep K (hide H hid) t.d v
def tP (K : PySem.W.Frag) (G : Gam) (cl : Cl) (W : WX) (p : P) : TE := fun σ H Q => ∃ ρ hid, HidOk H hid ∧ VR G cl K H hid ρ σ ∧ POut K cl σ H hid W (O1 K hid) (p.ev G ρ) Q
def tPs (K : PySem.W.Frag) (G : Gam) (cl : Cl) (W : WX) (ps : List P) : TA := fun σ H Q => ∃ ρ hid, HidOk H hid ∧ VR G cl K H hid ρ σ ∧ POut K cl σ H hid W (Os K hid) (P.evs G ps ρ) Q
def tPt (K : PySem.W.Frag) (G : Gam) (cl : Cl) (W : WX) (p : P) : TT := fun σ H Q => ∃ ρ hid, HidOk H hid ∧ VR G cl K H hid ρ σ ∧ POut K cl σ H hid W Ob (p.tst G ρ) Q
def tPts (K : PySem.W.Frag) (G : Gam) (cl : Cl) (W : WX) (ps : List P) : TT := fun σ H Q => ∃ ρ hid, HidOk H hid ∧ VR G cl K H hid ρ σ ∧ POut K cl σ H hid W Ob (P.tsts G ps ρ) Q
section
variable {K : PySem.W.Frag} {cl : Cl} {σ : St} {H H1 : Hp} {hid : List Addr} {W : WX}
theorem hide_grow (ho : HidOk H hid) (s : Ext H H1) : Sub (hide H hid) (hide H1 hid) := hide_mono fun a o n e => ⟨s a o e, n⟩
theorem ExR.grow {c : Nat} {fs : List D} {d : Addr} (h : ExR K cl H hid c fs d) (ho : HidOk H hid) (s : Ext H H1) : ExR K cl H1 hid c fs d := by
  obtain ⟨vs, e, r⟩ := h
  exact ⟨vs, s _ _ e, r.sub (hide_grow ho s)⟩
theorem XR.grow {G : Gam} (h : XR G cl K H hid σ) (ho : HidOk H hid) (s : Ext H H1) : XR G cl K H1 hid σ := ⟨s.tabs h.tb, fun c fs e => ⟨(h.hx c fs e).1, (h.hx c fs e).2.grow ho s⟩⟩
theorem VR.grow {G : Gam} {ρ : Rho} (h : VR G cl K H hid ρ σ) (ho : HidOk H hid) (s : Ext H H1) : VR G cl K H1 hid ρ σ := ⟨h.len, h.x.grow ho s, fun i t e => by
  obtain ⟨v, a, b⟩ := h.get i t e
  exact ⟨v, a, b.sub (hide_grow ho s)⟩⟩
theorem KeepO.mut {H' : Hp} {a : Addr} {o : HO} (h : KeepO H' a o) (m : MutO o = true) : H' a = Option.some o := by
  cases o <;> first | exact h | cases m
theorem none_sub (s : Sub H H1) {a : Addr} (h : H1 a = none) : H a = none := by
  cases e : H a with
  | none => rfl
  | some o =>
    obtain ⟨o', q⟩ := (s a o e).some
    rw [q] at h
    cases h
theorem Out.grow {t : T} {Q : VK} (h : Out K H hid t Q) (s : Ext H H1) : Out K H1 hid t Q := fun v H' fp k f o => h v H' fp (s.trans k) (fun a ha => none_sub s (f a ha)) o
theorem Os.grow {ts : List T} {Q : List V → Hp → Prop} (h : Os K hid H ts Q) (s : Ext H H1) : Os K hid H1 ts Q := fun v H' fp k f o => h v H' fp (s.trans k) (fun a ha => none_sub s (f a ha)) o
theorem Ob.grow {α : Type} {b : α} {Q : α → Hp → Prop} (h : Ob H b Q) (s : Ext H H1) : Ob H1 b Q := fun H' k => h H' (s.trans k)
/-- an outcome wish that a greater heap keeps -/
def Grows {α β : Type} (O : Hp → α → (β → Hp → Prop) → Prop) : Prop := ∀ (H H1 : Hp) (a : α) (Q : β → Hp → Prop), O H a Q → Ext H H1 → O H1 a Q
theorem POut.grow {α β : Type} {O : Hp → α → (β → Hp → Prop) → Prop} {r : R α} {Q : β → Hp → Prop} (g : Grows O) (h : POut K cl σ H hid W O r Q) (s : Ext H H1) : POut K cl σ H1 hid W O r Q := by
  cases r with
  | ok t => exact g _ _ _ _ h s
  | ex c fs => exact fun H' d k x => h H' d (s.trans k) x
  | no => exact h.elim
theorem g1 : Grows (O1 K hid) := fun _ _ _ _ h s => Out.grow h s
theorem gs : Grows (Os K hid) := fun _ _ _ _ h s => Os.grow h s
theorem gb {α : Type} : Grows (Ob (α := α)) := fun _ _ _ _ h s => Ob.grow h s
/-- first a value, then the rest -/
theorem POut.bind1 {β γ : Type} {O : Hp → β → (γ → Hp → Prop) → Prop} {r : R T} {f : T → R β} {Q : γ → Hp → Prop} (g : Grows O) (h : POut K cl σ H hid W O (r >>= f) Q) :
    POut K cl σ H hid W (O1 K hid) r fun v H2 => ∃ t fp, Ext H H2 ∧ (∀ a ∈ fp, H a = none) ∧ Own K H2 (fp ++ hid) t v fp ∧ POut K cl σ H2 hid W O (f t) Q := by
  cases r with
  | ok t => exact fun v H2 fp s fr o => ⟨t, fp, s, fr, o, POut.grow g h s⟩
  | ex c fs => exact h
  | no => exact h.elim
theorem POut.binds {β γ : Type} {O : Hp → β → (γ → Hp → Prop) → Prop} {r : R (List T)} {f : List T → R β} {Q : γ → Hp → Prop} (g : Grows O) (h : POut K cl σ H hid W O (r >>= f) Q) :
    POut K cl σ H hid W (Os K hid) r fun vs H2 => ∃ ts fp, Ext H H2 ∧ (∀ a ∈ fp, H a = none) ∧ Owns K H2 (fp ++ hid) ts vs fp ∧ POut K cl σ H2 hid W O (f ts) Q := by
  cases r with
  | ok t => exact fun v H2 fp s fr o => ⟨t, fp, s, fr, o, POut.grow g h s⟩
  | ex c fs => exact h
  | no => exact h.elim
theorem POut.bindb {α β γ : Type} {O : Hp → β → (γ → Hp → Prop) → Prop} {r : R α} {f : α → R β} {Q : γ → Hp → Prop} (g : Grows O) (h : POut K cl σ H hid W O (r >>= f) Q) :
    POut K cl σ H hid W Ob r fun b H2 => Ext H H2 ∧ POut K cl σ H2 hid W O (f b) Q := by
  cases r with
  | ok t => exact fun H2 s => ⟨s, POut.grow g h s⟩
  | ex c fs => exact h
  | no => exact h.elim
theorem HidOk.grow (h : HidOk H hid) (s : Ext H H1) : HidOk H1 hid := h.sub s
/-- a new value, seen -/
theorem Own.seen {t : T} {v : V} {fp : List Addr} (o : Own K H1 (fp ++ hid) t v fp) (ho : HidOk H hid) (s : Ext H H1) (fr : ∀ a ∈ fp, H a = none) : Rep K (hide H1 hid) t.d v :=
  o.rep (fun a ha => List.mem_append_right _ ha) (ho.grow s) fun a ha z => (ho.fresh (fr a ha)) z
theorem Owns.seen {ts : List T} {vs : List V} {fp : List Addr} (o : Owns K H1 (fp ++ hid) ts vs fp) (ho : HidOk H hid) (s : Ext H H1) (fr : ∀ a ∈ fp, H a = none) : Reps K (hide H1 hid) (T.ds ts) vs :=
  o.rep (fun a ha => List.mem_append_right _ ha) (ho.grow s) fun a ha z => (ho.fresh (fr a ha)) z
/-- from data to a wish without exceptions -/
theorem POut.rout {r : R T} {Q : VK} (h : POut K cl σ H hid W (O1 K hid) r Q) (hn : ∀ c fs, r ≠ .ex c fs) : ROut K H hid r Q := by
  cases r with
  | ok t => exact h
  | ex c fs => exact absurd rfl (hn c fs)
  | no => exact h
end
theorem PE.mono {X : Cx} {e : Expr} {t t' : TE} (h : PE X e t) (k : ∀ σ H Q, t' σ H Q → t σ H Q) : PE X e t' := ⟨fun pins s σ H Q I q => h.run pins s σ H Q I (k σ H Q q)⟩
theorem PT.mono {X : Cx} {e : Expr} {t t' : TT} (h : PT X e t) (k : ∀ σ H Q, t' σ H Q → t σ H Q) : PT X e t' := ⟨fun pins s σ H Q I q => h.run pins s σ H Q I (k σ H Q q)⟩
theorem PA.mono {X : Cx} {e : List Expr} {t t' : TA} (h : PA X e t) (k : ∀ σ H Q, t' σ H Q → t σ H Q) : PA X e t' := ⟨fun pos pins s σ H Q I q => h.run pos pins s σ H Q I (k σ H Q q)⟩

/-! ### no exception by itself -/
def NoEx {α : Type} (r : R α) : Prop := ∀ c fs, r ≠ .ex c fs
theorem nx_ok {α : Type} (a : α) : NoEx (R.ok a) := fun _ _ h => by cases h
theorem nx_no {α : Type} : NoEx (R.no : R α) := fun _ _ h => by cases h
theorem nx_ite {α : Type} {c : Prop} [Decidable c] {r s : R α} (h : NoEx r) (k : NoEx s) : NoEx (if c then r else s) := by
  by_cases z : c
  · rw [if_pos z]; exact h
  · rw [if_neg z]; exact k
theorem nx_of {α : Type} (o : Option α) : NoEx (R.of o) := by
  cases o
  · exact nx_no
  · exact nx_ok _
theorem nx_bind {α β : Type} {r : R α} {f : α → R β} (h : NoEx r) (k : ∀ a, NoEx (f a)) : NoEx (r >>= f) := by
  cases r with
  | ok a => exact k a
  | ex c fs => exact absurd rfl (h c fs)
  | no => exact nx_no
theorem nx_lstD (ds : List D) : NoEx (lstD ds) := nx_ite (nx_ok _) nx_no
theorem nx_binD (o : BinO) (d e : D) : NoEx (binD o d e) := by
  unfold binD
  split <;> first
    | exact nx_ok _
    | exact nx_no
    | exact nx_ite (nx_ok _) nx_no
    | exact nx_lstD _
    | (unfold strD; exact nx_ite (nx_ok _) nx_no)
    | (unfold tupD; exact nx_ite (nx_ok _) nx_no)
theorem nx_binT (o : BinO) (t : T) (e : D) : NoEx (binT o t e) := by
  unfold binT
  split
  · exact nx_ite (nx_ok _) nx_no
  · exact nx_binD _ _ _
theorem nx_eqD (d e : D) : NoEx (eqD d e) := nx_ite (nx_ok _) nx_no
theorem nx_cmpD (o : CmpO) (d e : D) : NoEx (cmpD o d e) := by
  have h1 : NoEx (isInD d e) := by
    unfold isInD
    split <;> first
      | exact nx_ite (nx_ok _) nx_no
      | exact nx_no
  have h2 : NoEx (isD d e) := by
    unfold isD
    split <;> first
      | exact nx_ok _
      | exact nx_no
  cases o with
  | eq => exact nx_eqD d e
  | ne => exact nx_bind (nx_eqD d e) fun _ => nx_ok _
  | lt =>
    show NoEx (ltD d e)
    unfold ltD
    split <;> first
      | exact nx_ok _
      | exact nx_no
      | (split <;> first | exact nx_ok _ | exact nx_no)
  | gt =>
    show NoEx (gtD d e)
    unfold gtD
    split <;> first
      | exact nx_ok _
      | exact nx_no
  | le =>
    show NoEx (leD d e)
    unfold leD
    split <;> first
      | exact nx_ok _
      | exact nx_no
  | ge =>
    show NoEx (leD e d)
    unfold leD
    split <;> first
      | exact nx_ok _
      | exact nx_no
  | is => exact h2
  | isn => exact nx_bind h2 fun _ => nx_ok _
  | isIn => exact h1
  | notIn => exact nx_bind h1 fun _ => nx_ok _
theorem nx_idxD (d e : D) : NoEx (idxD d e) := by
  unfold idxD
  split <;> first
    | exact nx_bind (nx_of _) fun _ => nx_ok _
    | exact nx_no
theorem nx_truD (d : D) : NoEx (truD d) := by
  cases d <;> first | exact nx_ok _ | exact nx_no
theorem nx_maxDD (ds : List D) : NoEx (maxDD ds) := by
  unfold maxDD
  split <;> first
    | exact nx_no
    | exact nx_ite (nx_ok _) nx_no
theorem nx_biD (c : Bool) (b : BI) (ds : List D) : NoEx (biD c b ds) := by
  unfold biD
  split <;> first
    | exact nx_ok _
    | exact nx_no
    | exact nx_bind (nx_of _) fun _ => nx_ok _
    | exact nx_ite (nx_ok _) nx_no
    | exact nx_ite (nx_maxDD _) nx_no
    | exact nx_ite (nx_bind (nx_of _) fun _ => nx_ok _) nx_no
    | exact nx_ite (nx_bind (nx_of _) fun _ => nx_bind (nx_of _) fun _ => nx_ok _) nx_no
end Gn

set_option Elab.async false
set_option linter.all false
set_option maxRecDepth 100000
set_option maxHeartbeats 4000000
namespace Gn
open PySem PySem.Spec PyProof.Rows L2

/-! ### binding: all parameters plain -/
theorem lk_mem {ν α : Type} [BEq ν] [LawfulBEq ν] : ∀ {l : List (ν × α)} {n : ν} {v : α}, (l.map Prod.fst).Nodup → (n, v) ∈ l → l.lookup n = some v
  | [], _, _, _, h => nomatch h
  | (m, w) :: l, n, v, nd, h => by
    rcases List.mem_cons.mp h with e | e
    · cases e
      simp
    · have hm : n ≠ m := by
        intro z
        have q : n ∈ l.map Prod.fst := List.mem_map_of_mem (f := Prod.fst) e
        rw [z] at q
        exact (List.nodup_cons.mp nd).1 q
      have hb : (n == m) = false := by simpa using hm
      rw [List.lookup_cons, hb]
      exact lk_mem (List.nodup_cons.mp nd).2 e
theorem lk_all {ν α : Type} [BEq ν] [LawfulBEq ν] {l : List (ν × α)} (nd : (l.map Prod.fst).Nodup) : ∀ {m : List (ν × α)}, (∀ p ∈ m, p ∈ l) → (m.map Prod.fst).filterMap (fun n => (l.lookup n).map (n, ·)) = m
  | [], _ => rfl
  | (n, v) :: m, h => by
    rw [List.map_cons, List.filterMap_cons, lk_mem nd (h (n, v) (by simp))]
    show (n, v) :: _ = _
    rw [lk_all nd fun p hp => h p (by simp [hp])]
theorem lk_none {ν α : Type} [BEq ν] [LawfulBEq ν] {l : List (ν × α)} (nd : (l.map Prod.fst).Nodup) : (l.map Prod.fst).filter (fun n => (l.lookup n).isNone) = [] := by
  rw [List.filter_eq_nil_iff]
  intro n hn
  obtain ⟨⟨m, v⟩, h1, rfl⟩ := List.mem_map.mp hn
  rw [lk_mem nd h1]
  simp
theorem fst_zip {α β : Type} : ∀ {a : List α} {b : List β}, b.length = a.length → (a.zip b).map Prod.fst = a
  | [], _, _ => by simp
  | x :: a, [], h => by simp at h
  | x :: a, y :: b, h => by simp [fst_zip (a := a) (b := b) (by simpa using h)]
theorem bind_plain {fd : FuncData} {as : List Arg} {us : List Value} (hp : fd.params = ⟨[], as, none, [], [], none, []⟩) (hd : fd.defaults = .none) (nd : (as.map (·.arg)).Nodup) (hl : us.length = as.length) : bindArgs fd ⟨us, []⟩ = pure ((as.map (·.arg)).zip us) := by
  have e1 : ((as.map (·.arg)).zip us).map Prod.fst = as.map (·.arg) := fst_zip (by simpa using hl)
  have nd1 : (((as.map (·.arg)).zip us).map Prod.fst).Nodup := by rw [e1]; exact nd
  have k1 := lk_none nd1
  have k2 := lk_all nd1 (m := (as.map (·.arg)).zip us) fun _ h => h
  rw [e1] at k1 k2
  have hs : (seqItems? Value.none : Sem (Option (Array Value))) = pure none := rfl
  unfold bindArgs
  simp only [hp, hd, hs]
  have hg : ¬ us.length > as.length := by omega
  simp only [List.map_nil, List.nil_append, List.append_nil, pure_bind, List.length_map, hg, false_and, decide_false, Bool.false_and, Bool.false_eq_true, if_false, Option.getD_none, List.length_nil, Nat.zero_sub, List.drop_nil, Nat.sub_zero, List.zip_nil_right]
  have ht : (as.map (·.arg)).take as.length = as.map (·.arg) := List.take_of_length_le (by simp)
  rw [List.filterMap_map] at k2
  simp [ht, k1]
  exact congrArg (pure : List (Str × Value) → Sem (List (Str × Value))) k2

/-! ### terms that change nothing: the value, new objects, no more -/
def PVal (X : Cx) (pins : List (Addr × Obj)) (σ : St) (s0 : Shared) (Q : VK) : Value → Shared → Prop := fun u s1 => ∃ x H1 h1 tk, s1 = { s0 with heap := h1, toks := tk } ∧ (∀ b o, s0.heap.get? b = some o → h1.get? b = some o) ∧ Inv X pins σ H1 s1 ∧ RelV x u ∧ Q x H1
structure PEp (X : Cx) (e : Expr) (t : TE) : Prop where
  go : ∀ (pins : List (Addr × Obj)) (s0 : Shared) (σ : St) (H : Hp) (Q : VK), Inv X pins σ H s0 → t σ H Q → wpAny (model X.prog X.w) X.A (eval e X.env) (PVal X pins σ s0 Q) (fun _ _ => False) s0
section
variable {X : Cx} {pins : List (Addr × Obj)} {σ : St} {H : Hp} {s0 : Shared} {Q : VK}
theorem pval_same {x : V} {u : Value} (J : Inv X pins σ H s0) (r : RelV x u) (q : Q x H) : PVal X pins σ s0 Q u s0 := ⟨x, H, s0.heap, s0.toks, rfl, fun _ _ z => z, J, r, q⟩
theorem pval_more {s1 : Shared} {u : Value} {h1 : Heap} {tk : Nat} (e : s1 = { s0 with heap := h1, toks := tk }) (k : ∀ b o, s0.heap.get? b = some o → h1.get? b = some o) {s2 : Shared} (p : PVal X pins σ s1 Q u s2) : PVal X pins σ s0 Q u s2 := by
  obtain ⟨x, H1, h2, tk2, e2, k2, J, r, q⟩ := p
  subst e
  exact ⟨x, H1, h2, tk2, e2, fun b o z => k2 b o (k b o z), J, r, q⟩
theorem pp_var {i : Nat} {x : Str} {pos : Pos} (hN : X.N[i]? = some x) (hv : Vis X.env.scope x) (hd : (x == ("__debug__" : Str)) = false) (hc : (x == ("__classdict__" : Str)) = false) : PEp X (.Name x pos) (tVar i) := ⟨fun pins s0 σ H Q J ⟨v, e, q⟩ => by
  obtain ⟨m, ns, look⟩ := J.loc
  obtain ⟨u, r, l⟩ := look i x v hN e hv
  have done := pval_same J r q
  rcases l with ⟨kd, mx⟩ | ⟨kd, c, ec, cell⟩
  · exact wpAny_Name (wpAny_loadName_local J.ok.kind kd ns mx done) hd
  · exact kd.elim (fun kd => wpAny_Name (wpAny_loadName_cell J.ok.kind kd ec cell done) hd) fun kd => wpAny_Name (wpAny_loadName_free J.ok.kind kd ec cell done hc) hd⟩
theorem pp_int {i : Int} {j : Nat} {pos : Pos} : PEp X (.Constant (.int i) j pos) (tC (.int i)) := ⟨fun pins s0 σ H Q J q => wpAny_Constant_int ⟨.int i, H, s0.heap, s0.toks + 1, rfl, fun _ _ z => z, J.tok _, ⟨_, rfl⟩, q⟩⟩
/-- an item of a list or of a tuple -/
def rPx (K : PySem.W.Frag) : V → V → Hp → VK → Prop := fun x y H Q => ∃ p xs i v, x = .ref p ∧ y = .int i ∧ (SqL K H p xs ∨ SqT K H p xs) ∧ 0 ≤ i ∧ atI xs i = some v ∧ Q v H
theorem pp_ix {a b : Expr} {ta tb : TE} {pos : Pos} (ha : PEp X a ta) (hb : PEp X b tb) (pl : PlainIx b) : PEp X (.Subscript a b pos) (fun σ H Q => ta σ H fun x H1 => tb σ H1 fun y H2 => rPx X.K x y H2 Q) := ⟨fun pins s0 σ H Q J h => by
  refine Subscript_ (thn (ha.go pins s0 σ H _ J h) fun o s1 ⟨x, H1, h1, t1, e1, k1, J1, r1, q1⟩ => thn (hb.go pins s1 σ H1 _ J1 q1) fun i s2 ⟨y, H2, h2, t2, e2, k2, J2, r2, q2⟩ => ?_)
  obtain ⟨p, xs, n, v, ex, ey, sq, n0, at_, q⟩ := q2
  subst ex ey
  cases r1
  obtain ⟨tk, er⟩ := r2
  subst er
  subst e1
  obtain ⟨j, c1, c2, c3, c4, c5⟩ := atI_get at_
  have n63 := line63
  have jn : n.toNat = j := by
    rw [seqIndex_of n0 c5] at c1
    exact Option.some.inj c1
  have base : ∀ {u : Value}, RelV v u → PVal X pins σ s0 Q u s2 := fun {u} ru => ⟨v, H2, h2, t2, e2, fun b o z => k2 b o (k1 b o z), J2, ru, q⟩
  rcases sq with sq | sq
  · obtain ⟨its, rv, isl, sz⟩ := J2.list sq
    obtain ⟨w, ew, rw2⟩ := rv.get c2
    have ln := rv.length
    exact item_listR isl.isList n0 (by omega) (by rw [jn]; simpa using ew) (base rw2) (pl _ _)
  · obtain ⟨its, rv, ist, sz⟩ := J2.tuple sq
    obtain ⟨w, ew, rw2⟩ := rv.get c2
    have ln := rv.length
    exact subscriptTail_builtinR (x := w) ist.typeIs slot_tuple_getitem.lookup (getItem_tuple (j := j) (Q := fun r s' => r = w ∧ PVal X pins σ s0 Q r s') ist (by omega) (by omega) (by rw [List.size_toArray, ← ln]; exact c1) (by simpa using ew) ⟨rfl, base rw2⟩) (pl _ _)⟩
/-- (a, b) -/
theorem pp_pair {a b : Expr} {ta tb : TE} {c : Nat} {pos : Pos} (ha : PEp X a ta) (hb : PEp X b tb) (pa : starEach [a, b] X.env = [(false, eval a X.env), (false, eval b X.env)]) :
    PEp X (.Tuple [a, b] c pos) (fun σ H Q => ta σ H fun x H1 => tb σ H1 fun y H2 => ∀ p, H2 p = none → Q (.ref p) (upd H2 p (.tup [x, y]))) := ⟨fun pins s0 σ H Q J h => by
  refine wpAny_Tuple_spliced ?_
  have sh : backTo pos (starEach [a, b] X.env) = [(false, eval a X.env), (false, eval b X.env)] := by
    rw [pa]
    rfl
  rw [sh]
  refine Calls.spliced_cons (thn (ha.go pins s0 σ H _ J h) fun u s1 ⟨x, H1, h1, t1, e1, k1, J1, r1, q1⟩ => ?_)
  refine Calls.spliced_cons (thn (hb.go pins s1 σ H1 _ J1 q1) fun w s2 ⟨y, H2, h2, t2, e2, k2, J2, r2, q2⟩ => ?_)
  refine Calls.spliced_nil ⟨by rw [sizeLine_eq]; show 2 ≤ _; omega, ?_⟩
  subst e1 e2
  have fr : H2 h2.objs.size = none := J2.hok.fresh (Nat.le_refl _)
  exact ⟨.ref h2.objs.size, upd H2 h2.objs.size (.tup [x, y]), h2.push { cls := .type "tuple", data := .seq [u, w].toArray }, t2, rfl, fun b o z => Heap.get?_push_of_some _ (k2 b o (k1 b o z)), J2.laid (t' := t2) (fun b u e => Heap.get?_push_of_some _ e) (Nat.le_refl _) ⟨by rw [sizeLine_eq]; show 2 ≤ _; omega, [u, w], .cons r1 (.cons r2 .nil), ⟨_, Heap.get?_push_size _ rfl, rfl, _, rfl⟩⟩, rfl, q2 _ fr⟩⟩
end
end Gn

set_option Elab.async false
set_option linter.all false
set_option maxRecDepth 100000
set_option maxHeartbeats 4000000
namespace Gn
open PySem PySem.Spec PyProof.Rows L2

/-! ### a lambda with one parameter, called with one value -/
structure Lam1 (sc scope : Scope) (a : Str) : Prop where
  kind : scope.kind = .function
  co : scope.isCoroutine = false
  gen : scope.isGenerator = false
  par : scope.names.lookup a = some .local
  own : ∀ y ∈ scope.names, y.2 ≠ .cell ∧ (y.2 = .local → y.1 = a)
  free : ∀ y ∈ scope.names, y.2 = .free → sc.names.lookup y.1 = some .cell ∨ sc.names.lookup y.1 = some .free
def lam1B (sc scope : Scope) (a : Str) : Bool := decide (scope.kind = .function) && (!scope.isCoroutine && (!scope.isGenerator && (decide (scope.names.lookup a = some .local) &&
  (scope.names.all (fun y => !decide (y.2 = .cell) && (!decide (y.2 = .local) || decide (y.1 = a))) && scope.names.all (fun y => !decide (y.2 = .free) || (decide (sc.names.lookup y.1 = some .cell) || decide (sc.names.lookup y.1 = some .free)))))))
theorem b2' {a b : Bool} (h : (a && b) = true) : a = true ∧ b = true := by simpa using h
theorem lam1_ok {sc scope : Scope} {a : Str} (h : lam1B sc scope a = true) : Lam1 sc scope a := by
  obtain ⟨h1, h⟩ := b2' h
  obtain ⟨h2, h⟩ := b2' h
  obtain ⟨h3, h⟩ := b2' h
  obtain ⟨h4, h⟩ := b2' h
  obtain ⟨h5, h6⟩ := b2' h
  refine ⟨of_decide_eq_true h1, by simpa using h2, by simpa using h3, of_decide_eq_true h4, fun y hy => ?_, fun y hy e => ?_⟩
  · obtain ⟨q1, q2⟩ := b2' (List.all_eq_true.mp h5 y hy)
    refine ⟨by simpa using q1, fun e => ?_⟩
    simpa [e] using q2
  · have q := List.all_eq_true.mp h6 y hy
    simpa [e] using q
section
variable {X : Cx} {pins : List (Addr × Obj)} {σ : St} {H : Hp} {s : Shared} {scope : Scope} {a : Str}
theorem Lam1.caught (L : Lam1 X.env.scope scope a) (ok : X.Ok) : ∀ y ∈ scope.names, y.2 = .free → ∃ c, X.env.cells.lookup y.1 = some c := fun y hy e =>
  ok.has _ ((L.free y hy e).elim .inl .inr)
/-- the frame of the call -/
theorem lam1_start {A : Around} {outer : List Env} {E : XK} {f c' : Addr} {h₁ : Heap} {tk i : Nat} {xv : V} {v : Value} (J : Inv X pins σ H s) (L : Lam1 X.env.scope scope a) (ia : X.N[i]? = some a) (nod : X.N.Nodup)
    (en : Env0 X.prog X.w X.K X.mg X.base A outer s H) (cold : A.handled = none) (ns : h₁.Ns s.heap.objs.size fun y => [(a, v)].reverse.lookup y) (kp : ∀ b o, s.heap.get? b = some o → h₁.get? b = some o) (rv : RelV xv v) :
    Inv (LamX.lamCx X A outer s H E scope f c') [] (σ.set i (some xv)) H { s with heap := h₁, toks := tk } := by
  have got := L.caught J.ok
  have back : ∀ {y : Str} {c : Addr}, (cloFrom X.env.cells scope.names []).lookup y = some c → X.env.cells.lookup y = some c := fun {y c} e => by
    rcases cloFrom_mem (PySem.mem_of_lookup e) with z | ⟨z1, z2⟩
    · cases z
    · obtain ⟨d, ed⟩ := got _ z1 rfl
      have ed : X.env.cells.lookup y = some d := ed
      have z2 : c = (X.env.cells.lookup y).getD 0 := z2
      rw [ed] at z2
      rw [ed, z2]
      rfl
  have fwd : ∀ {y : Str}, scope.names.lookup y = some .free → ∃ c, (cloFrom X.env.cells scope.names []).lookup y = some c := fun {y} e => mem_lookup (cloFrom_has (cells := X.env.cells) (acc := []) (PySem.mem_of_lookup e))
  have cellK : ∀ {c : Addr} {w : Option Value}, s.heap.IsCell c w → h₁.IsCell c w := fun {c w} ⟨o, eo, hd⟩ => ⟨o, kp _ _ eo, hd⟩
  have none_ : ∀ b : Addr, b ∉ (LamX.lamCx X A outer s H E scope f c').ex := fun b z => nomatch (show b ∈ ([] : List Addr) from z)
  have ok : (LamX.lamCx X A outer s H E scope f c').Ok := {
    mod := en.mod, kind := L.kind, glob := rfl, blt := rfl, above := Nat.le_refl _
    inj := fun y z c e1 e2 => J.ok.inj y z c (back e1) (back e2)
    has := fun y hy => by
      have hy : scope.names.lookup y = some .cell ∨ scope.names.lookup y = some .free := hy
      rcases hy with z | z
      · exact absurd rfl (L.own _ (PySem.mem_of_lookup z)).1
      · exact fwd z
    cab := fun y c z _ => Bool.noConfusion (show false = true from z)
    hd := fun _ => cold
    frames := Around.frames_deeper en.frames
    stk := .inr ⟨rfl, rfl⟩
    exf := fun b z => absurd z (none_ b)
    bs := en.bs, bsz := en.bsz
    noex := fun b _ _ => none_ b
    exfs := fun b z => absurd z (none_ b)
    funs := en.funs, frf := en.frf }
  refine ⟨ok, rfl, en.bare, Un.kept kp, ⟨_, ns, fun j y w e1 e2 e3 => ?_⟩, fun y c e => ?_, en.hok.fresh (Nat.le_refl _), fun y c e => J.freeC y c (back e), (fun q hq => nomatch (show q ∈ ([] : List (Addr × Obj)) ++ [] from hq)), en.hok.kept kp, by rw [List.length_set]; exact J.len⟩
  · have e1 : X.N[j]? = some y := e1
    have e3 : Vis scope y := e3
    by_cases ij : i = j
    · subst ij
      rw [ia] at e1
      cases e1
      have lt : i < σ.length := by
        rw [J.len]
        exact (List.getElem?_eq_some_iff.mp ia).1
      rw [List.getElem?_set_self lt] at e2
      cases e2
      exact ⟨v, rv, .inl ⟨L.par, by simp⟩⟩
    · rw [List.getElem?_set_ne ij] at e2
      have ya : y ≠ a := fun z => by
        subst z
        obtain ⟨l1, q1⟩ := List.getElem?_eq_some_iff.mp ia
        obtain ⟨l2, q2⟩ := List.getElem?_eq_some_iff.mp e1
        exact ij ((List.getElem_inj nod).mp (q1.trans q2.symm))
      have fr : scope.names.lookup y = some .free := by
        rcases e3 with z | z | z
        · exact absurd ((L.own _ (PySem.mem_of_lookup z)).2 rfl) ya
        · exact absurd rfl (L.own _ (PySem.mem_of_lookup z)).1
        · exact z
      obtain ⟨m, _, look⟩ := J.loc
      have vis : Vis X.env.scope y := (L.free _ (PySem.mem_of_lookup fr) rfl).elim (fun z => .inr (.inl z)) fun z => .inr (.inr z)
      obtain ⟨u, ru, lk⟩ := look j y w e1 e2 vis
      obtain ⟨c, ec⟩ := fwd fr
      refine ⟨u, ru, .inr ⟨.inr fr, c, ec, ?_⟩⟩
      rcases lk with ⟨kd, _⟩ | ⟨_, d, ed, ce⟩
      · have kd : X.env.scope.names.lookup y = some .local := kd
        rcases L.free _ (PySem.mem_of_lookup fr) rfl with z | z <;> rw [show X.env.scope.names.lookup y = _ from z] at kd <;> cases kd
      · rw [back ec] at ed
        cases ed
        exact cellK ce
  · obtain ⟨w, ce⟩ := J.cell y c (back e)
    exact ⟨w, cellK ce⟩
/-- .. called: the body's value, new objects, no more -/
theorem lam1_call {A : Around} {f c' : Addr} {i : Nat} {xv : V} {v pm ctv : Value} {params : Arguments} {body : Expr} {pos : Pos} {tb : TE} {Q : VK} (J : Inv X pins σ H s) (L : Lam1 X.env.scope scope a) (ia : X.N[i]? = some a) (nod : X.N.Nodup) (en : Env0 X.prog X.w X.K X.mg X.base A X.stack s H) (rm : Room 1 A)
    (of : s.heap.get? f = some (PySem.W.kla_obj "<lambda>" (X.env.qual ++ "<lambda>") params body scope (cloFrom X.env.cells scope.names []) pm c' ctv)) (hc : H c' = some (LamX.CodeO c' (X.env.qual ++ "<lambda>"))) (pr : params = ⟨[], params.args, none, [], [], none, []⟩) (pa : params.args.map (·.arg) = [a])
    (hb : ∀ s0 : Shared, PEp (LamX.lamCx X A X.stack s H (fun _ _ _ => False) scope f c') body tb) (rv : RelV xv v) (q : tb (σ.set i (some xv)) H Q) :
    wpAny (model X.prog X.w) A (call (.ref f) [v]) (fun u s1 => ∃ x H1 h1 tk, s1 = { s with heap := h1, toks := tk } ∧ (∀ b o, s.heap.get? b = some o → h1.get? b = some o) ∧ HOk X.prog X.w H1 h1 ∧ (∃ Y : Cx, ∃ pins σ, Y.K = X.K ∧ Y.prog = X.prog ∧ Y.w = X.w ∧ Inv Y pins σ H1 s1) ∧ RelV x u ∧ Q x H1) (fun _ _ => False) s := by
  obtain ⟨⟨oc, vs, t, hoc, hdc, hvc⟩, _, _⟩ := J.hok c' _ hc
  have bd : bindArgs (PySem.W.kla_fn "<lambda>" (X.env.qual ++ "<lambda>") params body scope (cloFrom X.env.cells scope.names []) pm (.ref c') ctv) ⟨[v], []⟩ = pure [(a, v)] := by
    have := bind_plain (us := [v]) (as := params.args) (fd := PySem.W.kla_fn "<lambda>" (X.env.qual ++ "<lambda>") params body scope (cloFrom X.env.cells scope.names []) pm (.ref c') ctv) pr rfl (by rw [pa]; simp) (by have := congrArg List.length pa; simpa using this.symm)
    rw [pa] at this
    exact this
  refine wpAny_call (PySem.W.kla_callFunE rm.depth of rfl L.co L.gen rfl ⟨c', oc, vs, t, rfl, hoc, hdc, hvc⟩ ?_)
  rw [bd]
  refine wpAny_pure (wpAny_newFunctionEnv (fun y hy => (L.own y hy).1) (fun y hy => ?_) (fun h₁ ns sb => ⟨J.nolimit.fresh _ sb, ?_⟩) L.kind)
  · have : y = (a, v) := by simpa using hy
    rw [this]
    exact L.par
  have kp : ∀ b o, s.heap.get? b = some o → h₁.get? b = some o := fun b o e => sb.extBut b o (Nat.ne_of_lt (Heap.lt_size e)) (Heap.get?_push_of_some _ e)
  have J1 := lam1_start (E := fun _ _ _ => False) (f := f) (c' := c') (tk := s.toks + ([(a, v)] : List (Str × Value)).length) J L ia nod en rm.hd ns kp rv
  refine PySem.W.kla_codeExpr (wpAny_mono ((hb s).go [] _ _ H Q J1 q) (fun u s1 z => ?_) fun _ _ z => z.elim)
  obtain ⟨x, H1, h1, tk, e, k, J2, r, q1⟩ := z
  exact ⟨x, H1, h1, tk, by rw [e], fun b o z => k b o (kp b o z), by rw [e] at J2; exact J2.hok, ⟨LamX.lamCx X A X.stack s H (fun _ _ _ => False) scope f c', [], _, rfl, rfl, rfl, J2⟩, r, q1⟩
end
end Gn

set_option Elab.async false
set_option linter.all false
set_option maxRecDepth 100000
set_option maxHeartbeats 4000000
namespace Gn
open PySem PySem.Spec PyProof.Rows L2 PySem.Calls PySem.W

/-! ### sorted(xs, key=f): xs a list or a range -/
section
variable {prog : Program} {w : World} {A : Around} {E : Value → Shared → Prop} {s : Shared} {β : Type} {bs : List β} {R : Value → β → Prop}
theorem sorted_keyed {u : Value} {fa : Addr} {Q : Value → Shared → Prop} (k : β → PyData) (al : AllAlike (bs.map k)) (so : Sortable (bs.map k)) (few : bs.length ≤ sizeLine) (room : ∀ x, x ∈ bs → A.units + 2 + (k x).depth < cLine)
    (col : ∀ (B : Around) (Q1 : List Value → Shared → Prop) (E1 : Value → Shared → Prop), B.handled = A.handled → (∀ vs h1 t1, (∀ b o, s.heap.get? b = some o → h1.get? b = some o) → EachIs R vs bs → Q1 vs { s with heap := h1, toks := t1 }) → wpAny (model prog w) B (collect u) Q1 E1 s)
    (turn : ∀ (v : Value) (x : β), R v x → x ∈ bs → ∀ (h : Heap) (tk : Nat), (∀ b o, s.heap.get? b = some o → h.get? b = some o) →
      wpAny (model prog w) A.in1.in1 (call (.ref fa) [v]) (KeyPure (k x) { s with heap := h, toks := tk }) (fun _ _ => False) { s with heap := h, toks := tk })
    (fin : ∀ a out c h1 t1, (∃ g : Heap, (∀ b o, s.heap.get? b = some o → g.get? b = some o) ∧ (∀ b o, g.get? b = some o → h1.get? b = some o) ∧ a = g.objs.size) → (∀ b o, s.heap.get? b = some o → h1.get? b = some o) → h1.get? a = some (seqObj "list" (List.toArray out) c) → EachIs R out (bs.mergeSort (dataLe false k)) → Q (.ref a) { s with heap := h1, toks := t1 }) :
    wpAny (model prog w) A (call (.builtin "sorted") [u] [(Str.ofString "key", .ref fa)]) Q E s := by
  refine call_function_entry_kw kind_sorted plain_sorted entry_sorted (ksk_s1 _ _) ?_
  unfold Builtin.«sorted»
  refine wpAny_bind (m := checkCount "sorted" 1 1 _) (wpAny_pure ?_)
  refine wpAny_bind (col _ _ _ rfl fun vs h1 t1 kp1 ea => ?_)
  have lv : vs.length ≤ sizeLine := by rw [ea.length]; exact few
  refine wpAny_bind (wpAny_newList ?_ lv)
  have at1 : (h1.push { cls := .type "list", data := .seq vs.toArray }).get? h1.objs.size = some (seqObj "list" vs.toArray 0) := Heap.get?_push_size _ rfl
  have up : ∀ {g : Heap}, KeepsBut h1.objs.size (h1.push { cls := .type "list", data := .seq vs.toArray }) g → ∀ b o, s.heap.get? b = some o → g.get? b = some o := fun {g} kp b o e =>
    kp b o (Nat.ne_of_lt (Heap.lt_size (kp1 b o e))) (Heap.get?_push_of_some _ (kp1 b o e))
  refine wpAny_bind (wpAny_holding (wpAny_call_entry_kw slot_list_sort ⟨_, at1, rfl⟩ entry_list_sort ?_ (ksk_l1 _ _)))
  rw [ksk_t1]
  refine keyH_tree (kz := bs.map k) (s := { s with heap := h1.push { cls := .type "list", data := .seq vs.toArray }, toks := t1 }) at1 (by rw [List.length_map]; exact ea.length.symm) lv al so (bound_map (A := A.in1.in1) room)
    (keyH_turns (s := { s with heap := h1.push { cls := .type "list", data := .seq vs.toArray }, toks := t1 }) ea fun v x hR hx h tk kp => turn v x hR hx h tk (up kp)) fun h2 t2 out c kp hD ko => ?_
  exact ⟨_, rfl, wpAny_pure ⟨_, rfl, fin _ out c h2 t2 ⟨h1, kp1, fun b o e => kp b o (Nat.ne_of_lt (Heap.lt_size e)) (Heap.get?_push_of_some _ e), rfl⟩ (up kp) hD (keyedOut_each k ko ea)⟩⟩
end
end Gn

set_option Elab.async false
set_option linter.all false
set_option maxRecDepth 100000
set_option maxHeartbeats 4000000
namespace Gn
open PySem PySem.Spec PyProof.Rows L2
variable [Tbls]

/-! ### what a def promises, by its meaning -/
def pick (io : List Nat) (vs : List V) : List V := io.filterMap fun i => vs[i]?
/-- the arguments that only are read are frozen -/
def ioB : List Nat → Nat → List T → Bool
  | _, _, [] => true
  | io, i, t :: ts => (io.contains i || isFz t) && ioB io (i + 1) ts
def SpPost (K : PySem.W.Frag) (cl : Cl) (io : List Nat) (vs : List V) (H : Hp) (fp frn : List Addr) (Q : VK) (E : XK) (r : R (T × List T)) : Prop := match r with
  | .ok (t, outs) => ∀ v H' fr fo, ExtB fp H H' → (∀ a ∈ fr ++ fo, H a = none ∨ a ∈ fp) → (∀ a ∈ fr, a ∉ fo) → Own K H' (fr ++ fo ++ frn) t v fr → Owns K H' (fr ++ fo ++ frn) outs (pick io vs) fo → Q v H'
  | .ex c fs => ∀ H' d, ExtB fp H H' → ExR K cl H' frn c fs d → E (.ref (cl.ca c)) (some d) H'
  | .no => False
def spT (K : PySem.W.Frag) (cl : Cl) (n : Nat) (io : List Nat) (m : List T → R (T × List T)) : Sp := fun vs H Q E => vs.length = n ∧ TabsH H ∧ ∃ ts fp frn, HidOk H frn ∧ (∀ a ∈ fp, a ∉ frn) ∧ Owns K H (fp ++ frn) ts vs fp ∧ ioB io 0 ts = true ∧ SpPost K cl io vs H fp frn Q E (m ts)

/-! ### the static side -/
structure Sx where
  N : List Str
  gn : List Str
  fnn : List Str
  fio : List (List Nat)
  bt : List Str
  hot : Bool := false
  hs : Option Nat := none
  cn : List Str := []
  xnn : List Str := []
  hnn : List Str := []
  lam : Bool := false
/-- a def's contract, as the context has it -/
def FnG (X : Cx) (cl : Cl) (io : List Nat) (m : List T → R (T × List T)) (x : Str) : Prop :=
  ∃ f fd ps n, X.mg x = some (.ref f) ∧ PySem.W.keepIn X.K (.ref f) = true ∧ FnOk X.prog X.w X.K X.mg X.base (CX X.prog X.w) n f fd ps (spT X.K cl ps.length io m) ∧ Room n X.A ∧ Binds X.K fd ps [] ∧ ∀ ts, m ts ≠ .no → ts.length = ps.length
/-- a class that a name tells: an own one, or a built-in one -/
def CNm (X : Cx) (x : Str) (c : Value) : Prop := X.mg x = some c ∨ (X.mg x = none ∧ bootBuiltins x = some c ∧ x ≠ "__name__")
/-- what is known of an own exception class -/
structure ClsF (S : Sx) (G : Gam) (cl : Cl) (X : Cx) (c : Nat) : Prop where
  xfc : XfC X.K (cl.ca c)
  xf : ∀ f n, G.xf c f = some n → (cl.cf c)[n]? = some f ∧ (cl.cf c).Nodup ∧ PySem.W.findIn X.K (.ref (cl.ca c)) f = some none
  isc : ExcC X.K (cl.ca c)
  sub : ∀ k x, S.cn[k]? = some x → ∃ cv v, CNm X x cv ∧ (∀ u, RelV v u ↔ u = cv) ∧ PySem.W.kitOne X.K (.ref (cl.ca c)) cv = some (G.isub c k) ∧ PySem.W.exmOne X.K (.ref (cl.ca c)) cv = some (G.isub c k)
/-- a def called with the handled exception -/
structure FnX (P : Program) (w : World) (K : PySem.W.Frag) (mg : Str → Option Value) (base : Heap) (cl : Cl) (cok : Nat → Bool) (k : Nat) (f : Addr) (fd : FuncData) (ps : List Str) (m : Nat → List D → R T) : Prop where
  one : ps.length = 1
  run : ∀ (A : Around) (outer : List Env) (s : Shared) (H : Hp) (args : Args) (Q : VK) (p : Addr × Obj) (c : Nat) (fs : List D) (dd : Addr) (frn : List Addr), cok c = true → L2H.RoomH k A → L2H.PinOk outer H s p → Env0 P w K mg base A outer s H → BindsTo s fd args (ps.zip [.ref p.1]) →
    Zc (.ref (cl.ca c)) (some dd) p.2 → (∃ vs, p.2.data = .fields vs) → TabsH H → HidOk H frn → ExR K cl H frn c fs dd → POut K cl [] H frn (fun _ _ _ _ => False) (O1 K frn) (m c fs) Q →
    codeAny (model P w) A (.call (.ref f) args) (CR (CX P w) outer P w H s Q fun _ _ _ => False) s
def FnXG (X : Cx) (cl : Cl) (cok : Nat → Bool) (m : Nat → List D → R T) (x : Str) : Prop :=
  ∃ f fd ps n, X.mg x = some (.ref f) ∧ PySem.W.keepIn X.K (.ref f) = true ∧ FnX X.prog X.w X.K X.mg X.base cl cok n f fd ps m ∧ L2H.RoomH n X.A ∧ Binds X.K fd ps []
/-- a def called where an exception is handled, with data -/
structure FnXd (P : Program) (w : World) (K : PySem.W.Frag) (mg : Str → Option Value) (base : Heap) (k : Nat) (f : Addr) (fd : FuncData) (ps : List Str) (m : D → R T) : Prop where
  one : ps.length = 1
  run : ∀ (A : Around) (outer : List Env) (s : Shared) (H : Hp) (args : Args) (Q : VK) (p : Addr × Obj) (v : V) (u : Value) (d : D) (frn : List Addr) (cl : Cl), L2H.RoomH k A → L2H.PinOk outer H s p → Env0 P w K mg base A outer s H → BindsTo s fd args (ps.zip [u]) →
    RelV v u → TabsH H → HidOk H frn → Rep K (hide H frn) d v → POut K cl [] H frn (fun _ _ _ _ => False) (O1 K frn) (m d) Q →
    codeAny (model P w) A (.call (.ref f) args) (CR (CX P w) outer P w H s Q fun _ _ _ => False) s
def FnXdG (X : Cx) (m : D → R T) (x : Str) : Prop :=
  ∃ f fd ps n, X.mg x = some (.ref f) ∧ PySem.W.keepIn X.K (.ref f) = true ∧ FnXd X.prog X.w X.K X.mg X.base n f fd ps m ∧ L2H.RoomH n X.A ∧ Binds X.K fd ps []
/-- where an exception is handled -/
structure HxG (S : Sx) (G : Gam) (cl : Cl) (X : Cx) (c : Nat) : Prop where
  hs : S.hs = some cl.xs
  obj : ∃ oe, (cl.xa, oe) ∈ X.pn ∧ Zc (.ref (cl.ca c)) (some cl.xd) oe ∧ ∃ vs, oe.data = .fields vs
  cls : ClsF S G cl X c
  ck : G.cok c = true
  fx : ∀ k x, S.xnn[k]? = some x → FnXG X cl G.cok (G.fx k) x
  fd : ∀ k x, S.hnn[k]? = some x → FnXdG X (G.fh k) x
/-- a context's scope, against the written one (a comprehension's block has its free names as cells) -/
structure Agr (sc sc' : Scope) : Prop where
  loc : ∀ x, sc.names.lookup x = some .local → sc'.names.lookup x = some .local
  cel : ∀ x, sc.names.lookup x = some .cell → sc'.names.lookup x = some .cell
  fre : ∀ x, sc.names.lookup x = some .free → sc'.names.lookup x = some .cell ∨ sc'.names.lookup x = some .free
  glo : ∀ x, sc.names.lookup x = some .globalImplicit → sc'.names.lookup x = some .globalImplicit
theorem Agr.refl (sc : Scope) : Agr sc sc := ⟨fun _ h => h, fun _ h => h, fun _ h => .inr h, fun _ h => h⟩
theorem look_relabel {env : PySem.Env} : ∀ {names : List (Str × NameKind)} {x : Str} {k : NameKind}, names.lookup x = some k →
    ∃ k', (names.map fun (n, k) => if (k == NameKind.free && env.scope.kind == .function && env.kindOf n == some .cell) then (n, NameKind.cell) else (n, k)).lookup x = some k' ∧ (k' = k ∨ k = .free ∧ k' = .cell)
  | [], _, _, h => by simp at h
  | (n, k) :: r, x, k0, h => by
    have ih := @look_relabel env r x k0
    cases hx : x == n with
    | true =>
      simp only [List.lookup_cons, hx] at h
      cases h
      by_cases hc : (k == NameKind.free && env.scope.kind == .function && env.kindOf n == some .cell) = true
      · refine ⟨.cell, ?_, .inr ⟨?_, rfl⟩⟩
        · simp only [List.map_cons, if_pos hc, List.lookup_cons, hx]
        · obtain ⟨h1, _⟩ := Bool.and_eq_true_iff.mp hc
          obtain ⟨h2, _⟩ := Bool.and_eq_true_iff.mp h1
          revert h2
          cases k <;> first | (intro _; rfl) | (intro z; cases z)
      · exact ⟨k, by simp only [List.map_cons, if_neg hc, List.lookup_cons, hx], .inl rfl⟩
    | false =>
      simp only [List.lookup_cons, hx] at h
      obtain ⟨k', e, z⟩ := ih h
      refine ⟨k', ?_, z⟩
      by_cases hc : (k == NameKind.free && env.scope.kind == .function && env.kindOf n == some .cell) = true
      · simp only [List.map_cons, if_pos hc, List.lookup_cons, hx]; exact e
      · simp only [List.map_cons, if_neg hc, List.lookup_cons, hx]; exact e
theorem Agr.relabel (sc : Scope) (env : PySem.Env) : Agr sc (PySem.relabel sc env) := by
  refine ⟨fun x h => ?_, fun x h => ?_, fun x h => ?_, fun x h => ?_⟩ <;> obtain ⟨k', e, z⟩ := look_relabel (env := env) h <;> have e : (PySem.relabel sc env).names.lookup x = some k' := e <;> rw [e]
  · rcases z with rfl | ⟨z, _⟩
    · rfl
    · cases z
  · rcases z with rfl | ⟨z, _⟩
    · rfl
    · cases z
  · rcases z with rfl | ⟨_, rfl⟩
    · exact .inr rfl
    · exact .inl rfl
  · rcases z with rfl | ⟨z, _⟩
    · rfl
    · cases z
structure GX (S : Sx) (G : Gam) (cl : Cl) (sc : Scope) (X : Cx) (W : WX) : Prop where
  N : X.N = S.N
  nd : X.N.Nodup
  sc : Agr sc X.env.scope
  calm : S.hot = false → X.calm = true
  cm : G.calm = true → S.hot = false
  cold : S.hot = false → G.hx = none
  hu : X.A.units + 66 < cLine
  tk : Takes X W
  gl : ∀ (j : Nat) (x : Str) (d : D), S.gn[j]? = some x → G.gl[j]? = some d → ∃ u v, X.mg x = some u ∧ RelV v u ∧ ∀ H, Rep X.K H d v
  bt : ∀ x ∈ S.bt, X.mg x = none
  fn : S.hot = false → ∀ (k : Nat) (x : Str) (io : List Nat), S.fnn[k]? = some x → S.fio[k]? = some io → FnG X cl io (G.fn k) x
  hx : ∀ c fs, G.hx = some (c, fs) → HxG S G cl X c
  lm : S.lam = true → Room 3 X.A ∧ ∃ c P, LamX.TabB X.base X.mg c P ∧ X.env.code = .ref c ∧ (P, X.env.qual ++ "<lambda>") ∈ Tbls.L ∧ ∀ p ∈ Tbls.L, p.1 = P → p.2 = X.env.qual ++ "<lambda>"
theorem GX.blk {S : Sx} {G : Gam} {cl : Cl} {sc scope : Scope} {X : Cx} {W : WX} (g : GX S G cl sc X W) (hh : S.hot = false) (s : Shared) (H : Hp) (C : Addr) (c : List (Str × Addr)) (fp : List Addr) :
    GX S G cl scope (X.blk s H scope (compEnvC scope c C X.env) fp) (fun _ _ _ _ => False) := by
  refine ⟨g.N, g.nd, Agr.relabel scope X.env, g.calm, g.cm, g.cold, g.hu, fun u s' x => ?_, g.gl, g.bt, g.fn, fun c fs e => absurd (g.cold hh) (by rw [e]; intro z; cases z), g.lm⟩
  obtain ⟨a, B, sI, pins, σ, H', cls, d, _, _, _, _, _, _, _, _, z⟩ := x
  exact z.elim

/-! ### does a term tell an expression -/
def visB (sc : Scope) (x : Str) : Bool := match sc.names.lookup x with
  | some .local | some .cell | some .free => true
  | _ => false
def glB (sc : Scope) (x : Str) : Bool := match sc.names.lookup x with
  | some .globalImplicit => true
  | _ => false
def okName (x : Str) : Bool := !(x == ("__debug__" : Str)) && !(x == ("__classdict__" : Str)) && !decide (x = ("__name__" : Str))
/-- no form that stands apart where a list of expressions, an index, a walk is asked -/
def locB (sc : Scope) (x : Str) : Bool := match sc.names.lookup x with
  | some .local | some .cell => true
  | _ => false
def plainE : Expr → Bool
  | .Starred _ _ | .Slice _ _ _ _ | .Set _ _ _ | .NamedExpr _ _ _ => false
  | _ => true
def cstB : D → Const → Bool
  | .none, .none => true
  | .bool b, .bool c => b == c
  | .int i, .int j => decide (i = j)
  | .str x, .str y => decide (x = y) && (decide (x.length ≤ 100000) && x.cps.toList.all fun c => decide (c < 0x110000))
  | _, _ => false
def Ky.chk (N : List Str) (lsc : Scope) : Ky → Expr → Bool
  | .v i, .Name x _ => decide (N[i]? = some x) && (visB lsc x && okName x)
  | .n k, .Constant (.int j) _ _ => decide (k = j)
  | .ix a b, .Subscript e f _ => plainE f && (a.chk N lsc e && b.chk N lsc f)
  | .pr a b, .Tuple [e, f] _ _ => plainE e && (plainE f && (a.chk N lsc e && b.chk N lsc f))
  | _, _ => false
def onePar (a : Arguments) (x : Str) : Bool := a.posonlyargs.isEmpty && (a.vararg.isNone && (a.kwonlyargs.isEmpty && (a.kw_defaults.isEmpty && (a.kwarg.isNone && (a.defaults.isEmpty && decide (a.args.map (·.arg) = [x]))))))
def lamB (N : List Str) (sc : Scope) (i : Nat) (q : Ky) (params : Arguments) (body : Expr) (lsc : Scope) : Bool := match N[i]? with
  | some a => onePar params a && (lam1B sc lsc a && q.chk N lsc body)
  | none => false
def BI.name : BI → Str
  | .len => "len"
  | .int => "int"
  | .abs => "abs"
  | .str => "str"
  | .list => "list"
  | .tuple => "tuple"
  | .sorted => "sorted"
  | .maxD => "max"
  | .sortedD => "sorted"
  | .sortedR => "sorted"
  | .sum => "sum"
  | .all => "all"
  | .any => "any"
  | .max2 => "max"
  | .min2 => "min"
  | .max1 => "max"
  | .min1 => "min"
def Ty.name : Ty → Str
  | .int => "int"
  | .str => "str"
  | .bool => "bool"
  | .list => "list"
  | .tuple => "tuple"
def Ty.id : Ty → String
  | .int => "int"
  | .str => "str"
  | .bool => "bool"
  | .list => "list"
  | .tuple => "tuple"
def kwB : BI → List Keyword → Bool
  | .sortedR, [⟨some x, .Constant (.bool true) _ _, _⟩] => decide (x = ("reverse" : Str))
  | .sortedR, _ => false
  | _, [] => true
  | _, _ => false
/-- the terms that a walked expression leans on -/
def iterArgs (S : Sx) (sc : Scope) : IK → Expr → Option (List Expr)
  | .seq, e => if plainE e then some [e] else none
  | .rng1, .Call (.Name x _) [a] [] _ => if decide (x = ("range" : Str)) && S.bt.contains x && glB sc x then some [a] else none
  | .rng2, .Call (.Name x _) [a, b] [] _ => if decide (x = ("range" : Str)) && S.bt.contains x && glB sc x then some [a, b] else none
  | _, _ => none
def MT.name : MT → Str
  | .join => "join"
  | .split => "split"
  | .find => "find"
  | .starts => "startswith"
  | .index => "index"
  | .count => "count"
/-- what an attribute is asked of -/
def attrB : Expr → Bool
  | .Name _ _ | .Constant _ _ _ | .Subscript _ _ _ | .Call _ (_ :: _) _ _ | .BinOp _ _ _ _ => true
  | _ => false
/-- x is the name of the slot that bears the handled exception -/
def hsB (S : Sx) (sc : Scope) (x : Str) : Bool := (match S.hs with
  | some i => decide (S.N[i]? = some x)
  | none => false) && visB sc x && okName x
mutual
def P.chk (S : Sx) : P → Scope → Expr → Bool
  | .cst d, _, .Constant c _ _ => cstB d c
  | .var i, sc, .Name x _ => decide (S.N[i]? = some x) && visB sc x && okName x
  | .glob j, sc, .Name x _ => decide (S.gn[j]? = some x) && glB sc x && okName x
  | .bin o p q, sc, .BinOp a op b _ => decide (op = o.op) && (p.chk S sc a && q.chk S sc b)
  | .neg p, sc, .UnaryOp .USub a _ => p.chk S sc a
  | .cmp o p q, sc, .Compare a [op] [b] _ => decide (op = o.op) && plainE b && (p.chk S sc a && q.chk S sc b)
  | .andv p q, sc, .BoolOp .And [a, b] _ => p.chk S sc a && q.chk S sc b
  | .andv p q, sc, .BoolOp .And (a :: b :: c :: rest) pos => p.chk S sc a && q.chk S sc (.BoolOp .And (b :: c :: rest) pos)
  | .orv p q, sc, .BoolOp .Or [a, b] _ => p.chk S sc a && q.chk S sc b
  | .orv p q, sc, .BoolOp .Or (a :: b :: c :: rest) pos => p.chk S sc a && q.chk S sc (.BoolOp .Or (b :: c :: rest) pos)
  | .notv p, sc, .UnaryOp .Not a _ => p.chk S sc a
  | .idx p q, sc, .Subscript a b _ => plainE b && (p.chk S sc a && q.chk S sc b)
  | .sl p lo hi, sc, .Subscript a (.Slice l h none _) _ => p.chk S sc a && (P.chkO S lo sc l && P.chkO S hi sc h)
  | .lst ps, sc, .List es _ => decide (es.length ≤ 1000) && P.chks S ps sc es
  | .tup ps, sc, .Tuple es _ _ => decide (es.length ≤ 1000) && P.chks S ps sc es
  | .comp elt i k its cond, sc, .ListComp e [⟨.Name x _, a, ifs, 0⟩] scope _ =>
    !S.hot && ((decide (S.N[i]? = some x) && blkC S.N sc scope [(x, i)] && locB scope x) && (match iterArgs S sc k a with
      | some es => P.chks S its sc es
      | none => false) && (elt.chk S scope e && P.chkC S cond scope ifs))
  | .cmp3 o o' p q r, sc, .Compare a [op, op'] [b, c] _ => decide (op = o.op) && (decide (op' = o'.op) && (plainE b && (plainE c && (p.chk S sc a && (q.chk S sc b && r.chk S sc c)))))
  | .rv p, sc, .Subscript a (.Slice none none (some (.UnaryOp .USub (.Constant (.int 1) _ _) _)) _) _ => p.chk S sc a
  | .mt m p ps, sc, .Call (.Attribute o x ap) es [] cp => decide (x = m.name) && (attrB o && ((ap.endLine == cp.line) && (decide (es.length = 1) && (p.chk S sc o && P.chks S ps sc es))))
  | .sset p, sc, .Call (.Name x _) [.Call (.Name y _) [a] [] _] [] _ => !S.hot && (decide (x = ("sorted" : Str)) && (decide (y = ("set" : Str)) && (S.bt.contains x && (S.bt.contains y && (glB sc x && (glB sc y && (plainE a && p.chk S sc a)))))))
  | .edct, _, .Dict [] [] _ => true
  | .lset p, sc, .Call (.Name x _) [.Call (.Name y _) [a] [] _] [] _ => !S.hot && (decide (x = ("len" : Str)) && (decide (y = ("set" : Str)) && (S.bt.contains x && (S.bt.contains y && (glB sc x && (glB sc y && (plainE a && p.chk S sc a)))))))
  | .maxk p i q, sc, .Call (.Name x _) [a] [⟨nm, .Lambda params body lsc _, _⟩] _ => !S.hot && (S.lam && (decide (x = ("max" : Str)) && (decide (nm = some ("key" : Str)) && (S.bt.contains x && (glB sc x && (plainE a && (p.chk S sc a && lamB S.N sc i q params body lsc)))))))
  | .srtl p i q, sc, .Call (.Name x _) [a] [⟨nm, .Lambda params body lsc _, _⟩] _ => !S.hot && (S.lam && (decide (x = ("sorted" : Str)) && (decide (nm = some ("key" : Str)) && (S.bt.contains x && (glB sc x && (plainE a && (p.chk S sc a && lamB S.N sc i q params body lsc)))))))
  | .srtr p i q, sc, .Call (.Name x _) [.Call (.Name y _) [a] [] _] [⟨nm, .Lambda params body lsc _, _⟩] _ => !S.hot && (S.lam && (decide (x = ("sorted" : Str)) && (decide (nm = some ("key" : Str)) && (S.bt.contains x && (glB sc x && (decide (y = ("range" : Str)) && (S.bt.contains y && (glB sc y && (plainE a && (p.chk S sc a && lamB S.N sc i q params body lsc))))))))))
  | .lrev p, sc, .Call (.Name x _) [.Call (.Name y _) [a] [] _] [] _ => !S.hot && (decide (x = ("list" : Str)) && (decide (y = ("reversed" : Str)) && (S.bt.contains x && (S.bt.contains y && (glB sc x && (glB sc y && (plainE a && p.chk S sc a)))))))
  | .lrng p, sc, .Call (.Name x _) [.Call (.Name y _) [a] [] _] [] _ => !S.hot && (decide (x = ("list" : Str)) && (decide (y = ("range" : Str)) && (S.bt.contains x && (S.bt.contains y && (glB sc x && (glB sc y && (plainE a && p.chk S sc a)))))))
  | .xfl f, sc, .Attribute (.Name x _) a _ => decide (a = f) && hsB S sc x
  | .xis k, sc, .Call (.Name g _) [.Name x _, .Name y _] [] _ => decide (g = ("isinstance" : Str)) && (S.bt.contains g && (glB sc g && (hsB S sc x && (decide (S.cn[k]? = some y) && (glB sc y && okName y)))))
  | .xcall k, sc, .Call (.Name f _) [.Name x _] [] _ => decide (S.xnn[k]? = some f) && (glB sc f && (okName f && hsB S sc x))
  | .hcall k p, sc, .Call (.Name f _) [e] [] _ => decide (S.hnn[k]? = some f) && (glB sc f && (okName f && (plainE e && p.chk S sc e)))
  | .upper p, sc, .Call (.Attribute o x ap) [] [] cp => decide (x = ("upper" : Str)) && (attrB o && ((ap.endLine == cp.line) && p.chk S sc o))
  | .call k ps, sc, .Call (.Name x _) es [] _ => !S.hot && decide (S.fnn[k]? = some x) && decide (S.fio[k]? = some []) && glB sc x && okName x && P.chks S ps sc es
  | .bi b ps, sc, .Call (.Name x _) es kws _ => decide (x = b.name) && S.bt.contains x && glB sc x && okName x && kwB b kws && !es.isEmpty && P.chks S ps sc es
  | .isi p ty, sc, .Call (.Name x _) [a, .Name y _] [] _ => decide (x = ("isinstance" : Str)) && S.bt.contains x && glB sc x && decide (y = ty.name) && S.bt.contains y && glB sc y && plainE a && p.chk S sc a
  | _, _, _ => false
def P.chkO (S : Sx) : Option P → Scope → Option Expr → Bool
  | none, _, none => true
  | some p, sc, some e => p.chk S sc e
  | _, _, _ => false
def P.chks (S : Sx) : List P → Scope → List Expr → Bool
  | [], _, [] => true
  | p :: ps, sc, e :: es => plainE e && (p.chk S sc e && P.chks S ps sc es)
  | _, _, _ => false
/-- a comprehension's conditions: none or one -/
def P.chkC (S : Sx) : List P → Scope → List Expr → Bool
  | [], _, [] => true
  | [p], sc, [e] => p.chk S sc e
  | _, _, _ => false
end

/-! ### small facts -/
theorem b2 {a b : Bool} (h : (a && b) = true) : a = true ∧ b = true := Bool.and_eq_true_iff.mp h
theorem star_of {e : Expr} (h : plainE e = true) (es : List Expr) (env : PySem.Env) : starEach (e :: es) env = (false, eval e env) :: starEach es env := by
  cases e <;> first | rfl | cases h
theorem star_none {env : PySem.Env} {pos : Pos} : ∀ {es : List Expr}, (∀ e ∈ es, plainE e = true) → (backTo pos (starEach es env)).any (·.1) = false
  | [], _ => rfl
  | e :: es, h => by
    rw [star_of (h e (by simp))]
    show (false || (backTo pos (starEach es env)).any (·.1)) = false
    rw [star_none fun x hx => h x (by simp [hx])]
    rfl
theorem plainIx {e : Expr} (h : plainE e = true) : PlainIx e := by
  intro o i
  cases e <;> first | rfl | cases h
theorem plainFold {e : Expr} (h : plainE e = true) (env : PySem.Env) : ∀ x, foldedSetIterable e env x = pure x := by
  intro x
  cases e <;> first | rfl | cases h
theorem plainBehind {e : Expr} (h : plainE e = true) (op : CmpOp) : behindInMarks op e = false := by
  cases e <;> first | rfl | cases h
theorem vis_of {X : Cx} {sc : Scope} {x : Str} (a : Agr sc X.env.scope) (h : visB sc x = true) : Vis X.env.scope x := by
  unfold visB at h
  split at h
  · exact .inl (a.loc x (by assumption))
  · exact .inr (.inl (a.cel x (by assumption)))
  · exact .inr (a.fre x (by assumption))
  · cases h
theorem gl_of {X : Cx} {sc : Scope} {x : Str} (a : Agr sc X.env.scope) (h : glB sc x = true) : Gl X x := by
  unfold glB at h
  split at h
  · exact a.glo x (by assumption)
  · cases h
theorem okN {x : Str} (h : okName x = true) : (x == ("__debug__" : Str)) = false ∧ (x == ("__classdict__" : Str)) = false ∧ x ≠ ("__name__" : Str) := by
  obtain ⟨h1, h2⟩ := b2 h
  obtain ⟨h3, h4⟩ := b2 h1
  exact ⟨by simpa using h3, by simpa using h4, by simpa using h2⟩
theorem mem_of {l : List Str} {x : Str} (h : l.contains x = true) : x ∈ l := by simpa using h
theorem cst_rep {K : PySem.W.Frag} {H : Hp} {X : Cx} {d : D} {c : Const} {k : Nat} {pos : Pos} (h : cstB d c = true) : ∃ v, PE X (.Constant c k pos) (tC v) ∧ ∀ K H, Rep K H d v := by
  cases d <;> cases c <;> first
    | exact ⟨.non, pe_non, fun _ _ => .non⟩
    | (cases h; done)
    | (rename_i a b
       have e : a = b := by simpa [cstB] using h
       subst e
       exact ⟨_, pe_bl, fun _ _ => .bl _⟩)
    | (rename_i a b
       have e : a = b := of_decide_eq_true h
       subst e
       exact ⟨_, pe_int, fun _ _ => .int _⟩)
    | (rename_i a b
       obtain ⟨h1, h2⟩ := b2 h
       obtain ⟨h3, h4⟩ := b2 h2
       have e : a = b := of_decide_eq_true h1
       subst e
       refine ⟨_, pe_str, fun _ _ => .str _ ⟨?_, fun c hc => ?_⟩⟩
       · have := of_decide_eq_true h3
         rw [sizeLine_eq]
         omega
       · exact of_decide_eq_true (List.all_eq_true.mp h4 c hc))
theorem BI.boot (b : BI) : bootBuiltins b.name = some b.val := by cases b <;> decide +kernel
theorem Ty.boot (t : Ty) : bootBuiltins t.name = some (.type t.id) := by cases t <;> decide +kernel
theorem Ty.okN (t : Ty) : (t.name == ("__debug__" : Str)) = false ∧ t.name ≠ ("__name__" : Str) := by cases t <;> exact ⟨by decide +kernel, by decide +kernel⟩
end Gn

set_option Elab.async false
set_option linter.all false
set_option maxRecDepth 100000
set_option maxHeartbeats 4000000
namespace Gn
open PySem PySem.Spec PyProof.Rows L2
variable [Tbls]

theorem PTs.mono {X : Cx} {e : List Expr} {t t' : TT} (h : PTs X e t) (k : ∀ σ H Q, t' σ H Q → t σ H Q) : PTs X e t' := ⟨fun pins s σ H Q I q => h.run pins s σ H Q I (k σ H Q q)⟩
section
variable {S : Sx} {G : Gam} {cl : Cl} {sc : Scope} {X : Cx} {W : WX}
/-! ### values: operators that lean on a list just made -/
def rBinT (K : PySem.W.Frag) (o : BinO) : R2 := fun x y H Q => ∃ hid fp t e, HidOk H hid ∧ (∀ a ∈ fp, a ∉ hid) ∧ Own K H (fp ++ hid) t x fp ∧ Rep K (hide H hid) e y ∧ ROut K H hid (binT o t e) Q
theorem Own.shown {K : PySem.W.Frag} {H : Hp} {hid fp : List Addr} {t : T} {v : V} (o : Own K H (fp ++ hid) t v fp) (ho : HidOk H hid) (n : ∀ a ∈ fp, a ∉ hid) : Rep K (hide H hid) t.d v :=
  o.rep (fun a ha => List.mem_append_right _ ha) ho n
theorem Owns.shown {K : PySem.W.Frag} {H : Hp} {hid fp : List Addr} {ts : List T} {vs : List V} (o : Owns K H (fp ++ hid) ts vs fp) (ho : HidOk H hid) (n : ∀ a ∈ fp, a ∉ hid) : Reps K (hide H hid) (T.ds ts) vs :=
  o.rep (fun a ha => List.mem_append_right _ ha) ho n
theorem Reps.flat_rep {K : PySem.W.Frag} {H : Hp} {ds : List D} {vs : List V} (r : Reps K H ds vs) : ∀ n : Nat, Reps K H (List.replicate n ds).flatten (List.replicate n vs).flatten
  | 0 => .nil
  | n + 1 => by
    rw [List.replicate_succ, List.replicate_succ, List.flatten_cons, List.flatten_cons]
    exact r.append (Reps.flat_rep r n)
theorem op_binT (o : BinO) : OpR X (binaryOp o.op) (rBinT X.K o) := by
  intro pins s σ H x y v u Q I rx ry ⟨hid, fp, t, e, ho, nf, hd, he, h⟩
  have gen : binT o t e = binD o t.d e → wpAny (model X.prog X.w) X.A (binaryOp o.op v u) (EP X pins σ Q) X.xe s := fun z => by
    rw [z] at h
    exact op_bin o pins s σ H x y v u Q I rx ry ⟨hid, t.d, e, ho, hd.shown ho nf, he, h⟩
  cases o with
  | mul =>
    cases t with
    | lst ts =>
      cases he with
      | int k =>
        have r := hd.shown ho nf
        cases hd with
        | lst ha _ _ =>
          have h : ROut X.K H hid (if 0 ≤ k ∧ k < 2 ^ 40 ∧ ts.length * k.toNat ≤ sizeLine then .ok (.lst (fzs (List.replicate k.toNat (T.ds ts)).flatten)) else .no) Q := h
          obtain ⟨⟨c1, c2, c3⟩, h⟩ := rite h
          cases r with
          | lst hs rr =>
            have e1 := I.list_inj (sqL_sub (hide_sub _ _) hs) (SqL.of ha)
            subst e1
            have el : ts.length = (T.ds ts).length := by rw [T.ds_map, List.length_map]
            refine op_rep pins s σ H _ _ v u Q I rx ry ⟨_, k, _, rfl, rfl, ha, by omega, by omega, ?_, fun p hp => Out.lst ho h (rr.flat_rep _) hp⟩
            rw [rr.length, ← el]
            exact c3
      | _ => exact gen rfl
    | _ => exact gen rfl
  | _ => exact gen rfl

/-! ### making lists, tuples -/
theorem owns_fz {K : PySem.W.Frag} {H : Hp} {hid : List Addr} : ∀ {ts : List T} {vs : List V} {fp : List Addr}, Owns K H hid ts vs fp → ts.all isFz = true → fp = [] ∧ Reps K (hide H hid) (T.ds ts) vs
  | _, _, _, .nil, _ => ⟨rfl, .nil⟩
  | _, _, _, .cons h r n, e => by
    rw [List.all_cons, Bool.and_eq_true] at e
    obtain ⟨e1, e2⟩ := owns_fz r e.2
    subst e1
    cases h with
    | fz q => exact ⟨rfl, .cons q e2⟩
    | lst _ _ _ => cases e.1
    | tup _ _ => cases e.1
theorem mk_own {K : PySem.W.Frag} {H : Hp} {hid : List Addr} {ts : List T} {vs : List V} {fp : List Addr} {a : Addr} (o : Owns K H hid ts vs fp) (e : H a = some (.tup vs)) (na : a ∉ hid) : Own K H hid (mkTup ts) (.ref a) fp := by
  unfold mkTup
  by_cases c : ts.all isFz = true
  · rw [if_pos c]
    obtain ⟨rfl, r⟩ := owns_fz o c
    exact .fz (.tup (SqT.of (by rw [hide_out na]; exact e)) r)
  · rw [if_neg c]
    exact .tup e o
theorem Keep.up {H : Hp} {hid fp : List Addr} {p : Addr} {o : HO} (hp : H p = none) : Keep H (upd H p o) hid hid fp :=
  ⟨hide_upd hp, fun a _ u e => sub_upd hp a u e, fun a xs e => sub_upd hp a _ e⟩
theorem owns_lst {K : PySem.W.Frag} {H : Hp} {hid fp : List Addr} {ts : List T} {vs : List V} {Q : VK} {p : Addr} (h : Out K H hid (.lst ts) Q) {H1 : Hp} (s : Ext H H1) (fr : ∀ a ∈ fp, H a = none) (o : Owns K H1 (fp ++ hid) ts vs fp) (hp : H1 p = none) :
    Q (.ref p) (upd H1 p (.lst vs)) := by
  have pf : p ∉ fp := (o.lists).fresh hp
  refine h _ _ (p :: fp) (s.trans (sub_upd hp)) (fun a ha => ?_) (.lst upd_same pf (o.keep ⟨?_, fun a ha u e => sub_upd hp a u e, fun a xs e => sub_upd hp a _ e⟩))
  · rcases List.mem_cons.mp ha with e | e
    · rw [e]; exact none_sub s hp
    · exact fr a e
  · refine hide_mono fun a u n e => ⟨sub_upd hp a u e, fun z => ?_⟩
    rcases List.mem_cons.mp z with z | z
    · exact ne_of_none e hp z
    · exact n z
theorem owns_tup {K : PySem.W.Frag} {H : Hp} {hid fp : List Addr} {ts : List T} {vs : List V} {Q : VK} {p : Addr} (ho : HidOk H hid) (h : Out K H hid (mkTup ts) Q) {H1 : Hp} (s : Ext H H1) (fr : ∀ a ∈ fp, H a = none) (o : Owns K H1 (fp ++ hid) ts vs fp) (hp : H1 p = none) :
    Q (.ref p) (upd H1 p (.tup vs)) := by
  have pf : p ∉ fp ++ hid := ((o.lists).app (ho.grow s)).fresh hp
  exact h _ _ fp (s.trans (sub_upd hp)) fr (mk_own (o.keep (Keep.up hp)) upd_same pf)

/-! ### walks -/
structure ItD (K : PySem.W.Frag) (B : Hp) (J : It) (ds : List D) : Prop where
  stop : ∀ i H, Sub B H → ds.length ≤ i → J.stop i H
  go : ∀ (i : Nat) H d, Sub B H → ds[i]? = some d → J.go i H ∧ ∀ x H', J.yld i H x H' → H' = H ∧ Rep K B d x
theorem itD_list {K : PySem.W.Frag} {B : Hp} {a : Addr} {vs : List V} {ds : List D} (h : SqL K B a vs) (r : Reps K B ds vs) : ItD K B (Itl K a) ds := by
  refine ⟨fun i H s hi => ⟨vs, sqL_sub s h, by rw [r.length]; exact hi⟩, fun i H d s e => ?_⟩
  obtain ⟨v, e2, r2⟩ := r.get e
  refine ⟨⟨vs, v, sqL_sub s h, e2⟩, fun x H' ⟨e3, e4⟩ => ⟨e3, ?_⟩⟩
  have := e4 vs (sqL_sub s h)
  rw [e2] at this
  cases this
  exact r2
theorem itD_tup {K : PySem.W.Frag} {B : Hp} {a : Addr} {vs : List V} {ds : List D} (h : SqT K B a vs) (r : Reps K B ds vs) : ItD K B (Itt K a) ds := by
  refine ⟨fun i H s hi => ⟨vs, sqT_sub s h, by rw [r.length]; exact hi⟩, fun i H d s e => ?_⟩
  obtain ⟨v, e2, r2⟩ := r.get e
  refine ⟨⟨vs, v, sqT_sub s h, e2⟩, fun x H' ⟨e3, e4⟩ => ⟨e3, ?_⟩⟩
  have := e4 vs (sqT_sub s h)
  rw [e2] at this
  cases this
  exact r2
theorem itD_rng {K : PySem.W.Frag} {B : Hp} {lo hi : Int} : ItD K B (Itr lo (hi - lo).toNat) ((List.range (hi - lo).toNat).map fun (k : Nat) => .int (lo + (k : Int))) := by
  refine ⟨fun i H s h => (by rw [List.length_map, List.length_range] at h; exact h : (hi - lo).toNat ≤ i), fun i H d s e => ?_⟩
  rw [List.getElem?_map] at e
  cases e2 : (List.range (hi - lo).toNat)[i]? with
  | none => rw [e2] at e; cases e
  | some k =>
    rw [e2] at e
    cases e
    obtain ⟨h1, h2⟩ := List.getElem?_eq_some_iff.mp e2
    rw [List.length_range] at h1
    rw [List.getElem_range] at h2
    subst h2
    refine ⟨h1, fun x H' ⟨e3, e4⟩ => ⟨e3, ?_⟩⟩
    rw [e4]
    exact .int _
theorem itD_str {K : PySem.W.Frag} {B : Hp} {x : Str} (h : StrOk x) : ItD K B (Its x) (x.cps.toList.map fun c => .str ⟨#[c]⟩) := by
  refine ⟨fun i H s hi => (by rw [List.length_map, Array.length_toList] at hi; exact hi : x.cps.size ≤ i), fun i H d s e => ?_⟩
  rw [List.getElem?_map] at e
  cases e2 : x.cps.toList[i]? with
  | none => rw [e2] at e; cases e
  | some k =>
    rw [e2] at e
    cases e
    obtain ⟨h1, h2⟩ := List.getElem?_eq_some_iff.mp e2
    rw [Array.length_toList] at h1
    refine ⟨h1, fun y H' ⟨e3, c, e4, e5⟩ => ⟨e3, ?_⟩⟩
    have e6 : x.cps[i]? = some k := by simpa using e2
    rw [e6] at e4
    cases e4
    rw [e5]
    refine .str _ ⟨?_, fun z hz => ?_⟩
    · show 1 ≤ sizeLine
      rw [sizeLine_eq]
      omega
    · have e7 : z = k := by simpa using hz
      rw [e7]
      exact h.2 k (List.mem_of_getElem? e2)
/-- what is known of the walk: of a range, in every heap -/
def itA (K : PySem.W.Frag) (k : IK) (B : Hp) (J : It) (ds : List D) : Prop := match k with
  | .seq => ItD K B J ds
  | _ => ∀ B', ItD K B' J ds
theorem itA.it {K : PySem.W.Frag} {k : IK} {B : Hp} {J : It} {ds : List D} (h : itA K k B J ds) : ItD K B J ds := by
  cases k with
  | seq => exact h
  | rng1 => exact h B
  | rng2 => exact h B
def Oi (K : PySem.W.Frag) (k : IK) (hid : List Addr) (H : Hp) (ds : List D) (R : It → Hp → Prop) : Prop := ∀ J H', Ext H H' → itA K k (hide H' hid) J ds → R J H'
theorem gi {K : PySem.W.Frag} {k : IK} {hid : List Addr} : Grows (Oi K k hid) := fun _ _ _ _ h s J H' k => h J H' (s.trans k)
def iG (K : PySem.W.Frag) (G : Gam) (cl : Cl) (W : WX) (k : IK) (its : List P) : TI := fun σ H R => ∃ ρ hid, HidOk H hid ∧ VR G cl K H hid ρ σ ∧ POut K cl σ H hid W (Oi K k hid) (do itemsK k (← P.evs G its ρ)) R
theorem nx_itemsD (d : D) : NoEx (itemsD d) := by
  cases d <;> first | exact nx_ok _ | exact nx_no
theorem evs_one (p : P) (ρ : Rho) : P.evs G [p] ρ = (do return [← p.ev G ρ]) := by
  show (do
    let t ← p.ev G ρ
    let ts ← (R.ok [] : R (List T))
    return t :: ts) = _
  cases p.ev G ρ <;> rfl
theorem pi_gen {tg e : Expr} {p : P} (he : PE X e (tP X.K G cl W p)) : PI X tg e (iG X.K G cl W .seq [p]) := by
  refine ⟨fun pins s σ H R I ⟨ρ, hid, ho, vr, h⟩ => ?_⟩
  rw [evs_one] at h
  cases ev : p.ev G ρ with
  | ex c fs =>
    rw [ev] at h
    exact (pi_list he).run pins s σ H R I ⟨ρ, hid, ho, vr, by rw [ev]; exact h⟩
  | no =>
    rw [ev] at h
    exact h.elim
  | ok t =>
    rw [ev] at h
    have h : POut X.K cl σ H hid W (Oi X.K .seq hid) (itemsD t.d) R := h
    have seen : ∀ {v : V} {H' : Hp} {fp : List Addr}, Ext H H' → (∀ a ∈ fp, H a = none) → Own X.K H' (fp ++ hid) t v fp → Rep X.K (hide H' hid) t.d v := fun s fr o => o.seen ho s fr
    cases ed : t.d with
    | list ds =>
      rw [ed] at h
      refine (pi_list he).run pins s σ H R I ⟨ρ, hid, ho, vr, ?_⟩
      rw [ev]
      intro v H' fp sb fr o
      have r := seen sb fr o
      rw [ed] at r
      cases r with
      | lst hs rr => exact ⟨_, rfl, ⟨_, sqL_sub (hide_sub _ _) hs⟩, (show Oi X.K .seq hid H ds R from h) _ H' sb (itD_list hs rr)⟩
    | tuple ds =>
      rw [ed] at h
      refine (pi_tup he).run pins s σ H R I ⟨ρ, hid, ho, vr, ?_⟩
      rw [ev]
      intro v H' fp sb fr o
      have r := seen sb fr o
      rw [ed] at r
      cases r with
      | tup hs rr => exact ⟨_, rfl, ⟨_, sqT_sub (hide_sub _ _) hs⟩, (show Oi X.K .seq hid H ds R from h) _ H' sb (itD_tup hs rr)⟩
    | str x =>
      rw [ed] at h
      refine (pi_str he).run pins s σ H R I ⟨ρ, hid, ho, vr, ?_⟩
      rw [ev]
      intro v H' fp sb fr o
      have r := seen sb fr o
      rw [ed] at r
      cases r with
      | str _ hx => exact ⟨x, rfl, (show Oi X.K .seq hid H _ R from h) _ H' sb (itD_str hx)⟩
    | _ =>
      rw [ed] at h
      exact h.elim
end
end Gn

set_option Elab.async false
set_option linter.all false
set_option maxRecDepth 100000
set_option maxHeartbeats 4000000
namespace Gn
open PySem PySem.Spec PyProof.Rows L2
variable [Tbls]

section
variable {S : Sx} {G : Gam} {cl : Cl} {sc : Scope} {X : Cx} {W : WX}
theorem cfalse {P : Prop} (h : false = true) : P := absurd h Bool.false_ne_true
/-- an answer of data, behind terms that let exceptions out -/
theorem POut.fin {K : PySem.W.Frag} {σ : St} {H : Hp} {hid : List Addr} {r : R T} {Q : VK} (n : NoEx r) (h : POut K cl σ H hid W (O1 K hid) r Q) : ROut K H hid r Q := h.rout n
theorem snd_var {i : Nat} {x : Str} {pos : Pos} (g : GX S G cl sc X W) (h : (P.var i).chk S sc (.Name x pos) = true) : PE X (.Name x pos) (tP X.K G cl W (.var i)) := by
  obtain ⟨h1, h2⟩ := b2 (show (decide (S.N[i]? = some x) && visB sc x && okName x) = true from h)
  obtain ⟨h3, h4⟩ := b2 h1
  obtain ⟨k1, k2, _⟩ := okN h2
  refine PE.mono (pe_var (i := i) (by rw [g.N]; exact of_decide_eq_true h3) (vis_of g.sc h4) k1 k2) fun σ H Q ⟨ρ, hid, ho, vr, q⟩ => ?_
  have q : POut X.K cl σ H hid W (O1 X.K hid) (match ρ[i]? with | some (some t) => .ok (.fz t.d) | _ => .no) Q := q
  cases e : ρ[i]? with
  | none => rw [e] at q; exact q.elim
  | some o =>
    cases o with
    | none => rw [e] at q; exact q.elim
    | some t =>
      rw [e] at q
      obtain ⟨v, e2, r⟩ := vr.get i t e
      exact ⟨v, e2, Out.fz q r⟩
theorem snd_glob {j : Nat} {x : Str} {pos : Pos} (g : GX S G cl sc X W) (h : (P.glob j).chk S sc (.Name x pos) = true) : PE X (.Name x pos) (tP X.K G cl W (.glob j)) := by
  obtain ⟨h1, h2⟩ := b2 (show (decide (S.gn[j]? = some x) && glB sc x && okName x) = true from h)
  obtain ⟨h3, h4⟩ := b2 h1
  obtain ⟨k1, _, _⟩ := okN h2
  cases e : G.gl[j]? with
  | none =>
    have nv : PE X (.Name x pos) (fun _ _ _ => False) := ⟨fun _ _ _ _ _ _ z => z.elim⟩
    refine PE.mono nv fun σ H Q ⟨ρ, hid, ho, vr, q⟩ => ?_
    have q : POut X.K cl σ H hid W (O1 X.K hid) (match G.gl[j]? with | some d => .ok (.fz d) | none => .no) Q := q
    rw [e] at q
    exact q
  | some d =>
    obtain ⟨u, v, e1, rv, rr⟩ := g.gl j x d (of_decide_eq_true h3) e
    refine PE.mono (pe_glob (gl_of g.sc h4) e1 rv k1) fun σ H Q ⟨ρ, hid, ho, vr, q⟩ => ?_
    have q : POut X.K cl σ H hid W (O1 X.K hid) (match G.gl[j]? with | some d => .ok (.fz d) | none => .no) Q := q
    rw [e] at q
    exact Out.fz q (rr _)
/-- a wish may be weakened -/
def Mono {α β : Type} (O : Hp → α → (β → Hp → Prop) → Prop) : Prop := ∀ (H : Hp) (a : α) (Q Q' : β → Hp → Prop), O H a Q → (∀ v H', Q v H' → Q' v H') → O H a Q'
theorem POut.imp {α β : Type} {K : PySem.W.Frag} {σ : St} {H : Hp} {hid : List Addr} {O : Hp → α → (β → Hp → Prop) → Prop} {r : R α} {Q Q' : β → Hp → Prop} (m : Mono O) (h : POut K cl σ H hid W O r Q) (k : ∀ v H', Q v H' → Q' v H') : POut K cl σ H hid W O r Q' := by
  cases r with
  | ok t => exact m _ _ _ _ h k
  | ex c fs => exact h
  | no => exact h.elim
theorem m1 {K : PySem.W.Frag} {hid : List Addr} : Mono (O1 K hid) := fun _ _ _ _ h k v H' fp s f o => k _ _ (h v H' fp s f o)
theorem ms {K : PySem.W.Frag} {hid : List Addr} : Mono (Os K hid) := fun _ _ _ _ h k v H' fp s f o => k _ _ (h v H' fp s f o)
theorem mb {α : Type} : Mono (Ob (α := α)) := fun _ _ _ _ h k H' s => k _ _ (h H' s)
theorem mi {K : PySem.W.Frag} {k : IK} {hid : List Addr} : Mono (Oi K k hid) := fun _ _ _ _ h k J H' s i => k _ _ (h J H' s i)
theorem Own.grow {K : PySem.W.Frag} {H H' : Hp} {hid : List Addr} {t : T} {v : V} {fp : List Addr} (o : Own K H hid t v fp) (s : Ext H H') : Own K H' hid t v fp :=
  o.keep ⟨hide_mono fun a u n e => ⟨s a u e, n⟩, fun a _ u e => s a u e, fun a xs e => s a _ e⟩
theorem Owns.grow {K : PySem.W.Frag} {H H' : Hp} {hid : List Addr} {t : List T} {v : List V} {fp : List Addr} (o : Owns K H hid t v fp) (s : Ext H H') : Owns K H' hid t v fp :=
  o.keep ⟨hide_mono fun a u n e => ⟨s a u e, n⟩, fun a _ u e => s a u e, fun a xs e => s a _ e⟩
/-- a value of this meaning -/
def tR (G : Gam) (K : PySem.W.Frag) (cl : Cl) (W : WX) (f : Rho → R T) : TE := fun σ H Q => ∃ ρ hid, HidOk H hid ∧ VR G cl K H hid ρ σ ∧ POut K cl σ H hid W (O1 K hid) (f ρ) Q
theorem out_of {α β : Type} {O : Hp → α → (β → Hp → Prop) → Prop} {K : PySem.W.Frag} {σ : St} {H : Hp} {hid : List Addr} {a : α} {Q : β → Hp → Prop} (h : POut K cl σ H hid W O (R.ok a) Q) : O H a Q := h
/-- two terms, then O of their values -/
theorem two {p q : P} {r : R2} {O : T → T → R T} {σ : St} {H : Hp} {Q : VK} (h : tR G X.K cl W (fun ρ => do
      let t ← p.ev G ρ
      let u ← q.ev G ρ
      O t u) σ H Q)
    (n : ∀ t u, NoEx (O t u)) (k : ∀ hid fp t u x y H Q, HidOk H hid → (∀ a ∈ fp, a ∉ hid) → Own X.K H (fp ++ hid) t x fp → Rep X.K (hide H hid) u.d y → ROut X.K H hid (O t u) Q → r x y H Q) :
    tOp r (tP X.K G cl W p) (tP X.K G cl W q) σ H Q := by
  obtain ⟨ρ, hid, ho, vr, h⟩ := h
  refine ⟨ρ, hid, ho, vr, POut.imp m1 (POut.bind1 g1 h) fun v H1 ⟨t, fp, s, fr, o, h2⟩ => ?_⟩
  refine ⟨ρ, hid, ho.grow s, vr.grow ho s, POut.imp m1 (POut.bind1 g1 h2) fun w H2 ⟨u, fq, s2, fr2, o2, h3⟩ => ?_⟩
  exact k hid fp t u v w H2 Q ((ho.grow s).grow s2) (fun a ha => ho.fresh (fr a ha)) (o.grow s2) (o2.seen (ho.grow s) s2 fr2) (h3.rout (n t u))
theorem snd_bin {o : BinO} {p q : P} {a b : Expr} {pos : Pos} (ha : PE X a (tP X.K G cl W p)) (hb : PE X b (tP X.K G cl W q)) : PE X (.BinOp a o.op b pos) (tP X.K G cl W (.bin o p q)) :=
  PE.mono (pe_op (op_binT o) ha hb) fun σ H Q h => two (O := fun t u => binT o t u.d) h (fun t u => nx_binT _ _ _) fun hid fp t u x y H Q ho nf o1 r q => ⟨hid, fp, t, u.d, ho, nf, o1, r, q⟩
theorem rout_bool {K : PySem.W.Frag} {H : Hp} {hid : List Addr} {r : R Bool} {Q : VK} (h : ROut K H hid (do return .fz (.bool (← r))) Q) : BOut H r Q := by
  cases r with
  | ok b => exact Out.fz (K := K) (hid := hid) h (.bl b)
  | ex c fs => exact h.elim
  | no => exact h.elim
theorem snd_cmp {o : CmpO} {p q : P} {a b : Expr} {pos : Pos} (g : GX S G cl sc X W) (hp : plainE b = true) (ha : PE X a (tP X.K G cl W p)) (hb : PE X b (tP X.K G cl W q)) : PE X (.Compare a [o.op] [b] pos) (tP X.K G cl W (.cmp o p q)) :=
  PE.mono (pe_cmpR (op_cmpO (by have := g.hu; omega) o) ha hb (plainBehind hp _)) fun σ H Q h => two (O := fun t u => do return .fz (.bool (← cmpD o t.d u.d))) h (fun t u => nx_bind (nx_cmpD _ _ _) fun _ => nx_ok _)
    fun hid fp t u x y H Q ho nf o1 r q => ⟨hid, t.d, u.d, o1.shown ho nf, r, rout_bool q⟩
theorem snd_idx {p q : P} {a b : Expr} {pos : Pos} (hp : plainE b = true) (ha : PE X a (tP X.K G cl W p)) (hb : PE X b (tP X.K G cl W q)) : PE X (.Subscript a b pos) (tP X.K G cl W (.idx p q)) :=
  PE.mono (pe_ix ix_idx ha hb (plainIx hp)) fun σ H Q h => two (O := fun t u => idxD t.d u.d) h (fun t u => nx_idxD _ _)
    fun hid fp t u x y H Q ho nf o1 r q => ⟨hid, t.d, u.d, ho, o1.shown ho nf, r, q⟩
/-- one term, then O of its value -/
theorem one {p : P} {O : T → R T} {σ : St} {H : Hp} {Q : VK} {Z : V → Hp → Prop} (h : tR G X.K cl W (fun ρ => do
      let t ← p.ev G ρ
      O t) σ H Q)
    (k : ∀ ρ hid fp t x H, HidOk H hid → VR G cl X.K H hid ρ σ → (∀ a ∈ fp, a ∉ hid) → Own X.K H (fp ++ hid) t x fp → POut X.K cl σ H hid W (O1 X.K hid) (O t) Q → Z x H) :
    tP X.K G cl W p σ H Z := by
  obtain ⟨ρ, hid, ho, vr, h⟩ := h
  refine ⟨ρ, hid, ho, vr, POut.imp m1 (POut.bind1 g1 h) fun v H1 ⟨t, fp, s, fr, o, h2⟩ => ?_⟩
  exact k ρ hid fp t v H1 (ho.grow s) (vr.grow ho s) (fun a ha => ho.fresh (fr a ha)) o h2
theorem snd_neg {p : P} {a : Expr} {pos : Pos} (ha : PE X a (tP X.K G cl W p)) : PE X (.UnaryOp .USub a pos) (tP X.K G cl W (.neg p)) := by
  refine PE.mono (pe_un un_neg ha) fun σ H Q h => one (O := fun t => match t.d with | .int i => .ok (.fz (.int (-i))) | _ => .no) h fun ρ hid fp t x H ho vr nf o h => ?_
  have r := o.shown ho nf
  have h : POut X.K cl σ H hid W (O1 X.K hid) (match t.d with | .int i => .ok (.fz (.int (-i))) | _ => .no) Q := h
  cases e : t.d with
  | int i =>
    rw [e] at h r
    cases r
    exact ⟨i, rfl, Out.fz h (.int _)⟩
  | _ =>
    rw [e] at h
    exact h.elim
theorem bindb_ok {β γ : Type} {O : Hp → β → (γ → Hp → Prop) → Prop} {K : PySem.W.Frag} {σ : St} {H : Hp} {hid : List Addr} {d : D} {f : Bool → R β} {Q : γ → Hp → Prop} (h : POut K cl σ H hid W O (truD d >>= f) Q) : ∃ b, truD d = .ok b ∧ POut K cl σ H hid W O (f b) Q := by
  cases e : truD d with
  | ok b => rw [e] at h; exact ⟨b, rfl, h⟩
  | no => rw [e] at h; exact h.elim
  | ex c fs => exact absurd e (nx_truD d c fs)
theorem snd_not {p : P} {a : Expr} {pos : Pos} (ha : PE X a (tP X.K G cl W p)) : PE X (.UnaryOp .Not a pos) (tP X.K G cl W (.notv p)) := by
  refine PE.mono (pe_notT ha) fun σ H Q h => one (O := fun t => do return .fz (.bool (!(← truD t.d)))) h fun ρ hid fp t x H ho vr nf o h => ?_
  obtain ⟨b, e, h2⟩ := bindb_ok h
  exact ⟨b, truV_of ((o.shown ho nf).sub (hide_sub _ _)) e, Out.fz (out_of h2) (.bl _)⟩
theorem snd_and {p q : P} {a b : Expr} {rest : List Expr} {pos : Pos} (ha : PE X a (tP X.K G cl W p)) (hb : PE X (.BoolOp .And (b :: rest) pos) (tP X.K G cl W q)) : PE X (.BoolOp .And (a :: b :: rest) pos) (tP X.K G cl W (.andv p q)) := by
  refine PE.mono (pe_andT ha hb) fun σ H Q ⟨ρ, hid, ho, vr, h⟩ => ?_
  have h : POut X.K cl σ H hid W (O1 X.K hid) (do
    let t ← p.ev G ρ
    if ← truD t.d then q.ev G ρ else .ok (.fz t.d)) Q := h
  refine ⟨ρ, hid, ho, vr, POut.imp m1 (POut.bind1 g1 h) fun v H1 ⟨t, fp, s, fr, o, h2⟩ => ?_⟩
  obtain ⟨b, e, h3⟩ := bindb_ok h2
  have r := o.seen ho s fr
  refine ⟨b, truV_of (r.sub (hide_sub _ _)) e, ?_⟩
  cases b with
  | true => exact ⟨ρ, hid, ho.grow s, vr.grow ho s, h3⟩
  | false => exact Out.fz (out_of h3) r
theorem snd_or {p q : P} {a b : Expr} {rest : List Expr} {pos : Pos} (ha : PE X a (tP X.K G cl W p)) (hb : PE X (.BoolOp .Or (b :: rest) pos) (tP X.K G cl W q)) : PE X (.BoolOp .Or (a :: b :: rest) pos) (tP X.K G cl W (.orv p q)) := by
  refine PE.mono (pe_orT ha hb) fun σ H Q ⟨ρ, hid, ho, vr, h⟩ => ?_
  have h : POut X.K cl σ H hid W (O1 X.K hid) (do
    let t ← p.ev G ρ
    if ← truD t.d then .ok (.fz t.d) else q.ev G ρ) Q := h
  refine ⟨ρ, hid, ho, vr, POut.imp m1 (POut.bind1 g1 h) fun v H1 ⟨t, fp, s, fr, o, h2⟩ => ?_⟩
  obtain ⟨b, e, h3⟩ := bindb_ok h2
  have r := o.seen ho s fr
  refine ⟨b, truV_of (r.sub (hide_sub _ _)) e, ?_⟩
  cases b with
  | false => exact ⟨ρ, hid, ho.grow s, vr.grow ho s, h3⟩
  | true => exact Out.fz (out_of h3) r

/-! ### slices -/
def tO (K : PySem.W.Frag) (G : Gam) (cl : Cl) (W : WX) (p : Option P) : TO := fun σ H Q => ∃ ρ hid, HidOk H hid ∧ VR G cl K H hid ρ σ ∧ POut K cl σ H hid W Ob (P.prt G p ρ) Q
theorem PO.mono {e : Option Expr} {t t' : TO} (h : PO X e t) (k : ∀ σ H Q, t' σ H Q → t σ H Q) : PO X e t' := ⟨fun pins s σ H Q I q => h.run pins s σ H Q I (k σ H Q q)⟩
theorem snd_prtN : PO X none (tO X.K G cl W none) := PO.mono po_none fun σ H Q ⟨ρ, hid, ho, vr, h⟩ => h H (Ext.refl H)
theorem snd_prt {p : P} {e : Expr} (he : PE X e (tP X.K G cl W p)) : PO X (some e) (tO X.K G cl W (some p)) := by
  refine PO.mono (po_some he) fun σ H Q ⟨ρ, hid, ho, vr, h⟩ => ?_
  have h : POut X.K cl σ H hid W Ob (do
    let t ← p.ev G ρ
    return some (← partD t.d)) Q := h
  refine ⟨ρ, hid, ho, vr, POut.imp m1 (POut.bind1 gb h) fun v H1 ⟨t, fp, s, fr, o, h2⟩ => ?_⟩
  have r := o.seen ho s fr
  cases e : t.d with
  | int i =>
    rw [e] at h2 r
    cases r
    exact ⟨i, rfl, (show Ob H1 (some i) Q from h2) H1 (Ext.refl _)⟩
  | _ =>
    rw [e] at h2
    exact h2.elim
theorem sl_sli : SlR X (rSli X.K) := by
  intro pins s σ H x v vl vu lo hi sl Q I rx hs pl pu ⟨hid, d, ho, hd, h⟩
  cases hd with
  | lst ha ra => exact sl_list pins s σ H _ v vl vu lo hi sl Q I rx hs pl pu ⟨_, _, rfl, sqL_sub (hide_sub _ _) ha, fun p hp => Out.lst ho h (ra.cut lo hi) hp⟩
  | tup ha ra =>
    rename_i a vs ds
    obtain ⟨c, h⟩ := rite (show ROut X.K H hid (if ¬ (HT.sIx ds.length 0 lo = 0 ∧ HT.sIx ds.length ds.length hi = ds.length) then .ok (.fz (.tuple (cutL ds lo hi))) else .no) Q from h)
    exact sl_tup pins s σ H _ v vl vu lo hi sl Q I rx hs pl pu ⟨_, _, rfl, sqT_sub (hide_sub _ _) ha, by rw [ra.length]; exact c, fun p hp => Out.tup ho h (ra.cut lo hi) hp⟩
  | str z hz =>
    refine sl_str pins s σ H _ v vl vu lo hi sl Q I rx hs pl pu ⟨z, rfl, hz.1, ?_⟩
    refine Out.fz h (.str _ ⟨?_, fun c hc => hz.2 c (cutL_mem (by simpa using hc))⟩)
    exact Nat.le_trans (cutL_len z.cps.toList lo hi) hz.1
  | _ => exact h.elim
theorem POut.bindo {β γ : Type} {O : Hp → β → (γ → Hp → Prop) → Prop} {K : PySem.W.Frag} {σ : St} {H : Hp} {hid : List Addr} {α : Type} {r : R α} {f : α → R β} {Q : γ → Hp → Prop} (g : Grows O) (h : POut K cl σ H hid W O (r >>= f) Q) :
    POut K cl σ H hid W Ob r fun b H2 => Ext H H2 ∧ POut K cl σ H2 hid W O (f b) Q := POut.bindb g h
theorem nx_sliD (d : D) (lo hi : Option Int) : NoEx (sliD d lo hi) := by
  unfold sliD
  split <;> first
    | exact nx_ok _
    | exact nx_no
    | exact nx_ite (nx_ok _) nx_no
theorem snd_sl {p : P} {lo hi : Option P} {a : Expr} {l h : Option Expr} {p2 pos : Pos} (ha : PE X a (tP X.K G cl W p)) (hl : PO X l (tO X.K G cl W lo)) (hh : PO X h (tO X.K G cl W hi)) : PE X (.Subscript a (.Slice l h none p2) pos) (tP X.K G cl W (.sl p lo hi)) := by
  refine PE.mono (pe_slice sl_sli ha hl hh) fun σ H Q ⟨ρ, hid, ho, vr, q⟩ => ?_
  have q : POut X.K cl σ H hid W (O1 X.K hid) (do
    let t ← p.ev G ρ
    let l ← P.prt G lo ρ
    let h ← P.prt G hi ρ
    sliD t.d l h) Q := q
  refine ⟨ρ, hid, ho, vr, POut.imp m1 (POut.bind1 g1 q) fun v H1 ⟨t, fp, s, fr, o, q1⟩ => ?_⟩
  refine ⟨ρ, hid, ho.grow s, vr.grow ho s, POut.imp mb (POut.bindb g1 q1) fun l H2 ⟨s2, q2⟩ => ?_⟩
  refine ⟨ρ, hid, (ho.grow s).grow s2, (vr.grow ho s).grow (ho.grow s) s2, POut.imp mb (POut.bindb g1 q2) fun u H3 ⟨s3, q3⟩ => ?_⟩
  exact ⟨hid, t.d, ((ho.grow s).grow s2).grow s3, ((o.grow s2).grow s3).shown (((ho.grow s).grow s2).grow s3) (fun a ha => ho.fresh (fr a ha)), q3.rout (nx_sliD _ _ _)⟩

/-! ### displays -/
theorem snd_nil : PA X [] (tPs X.K G cl W []) := PA.mono pa_nil fun σ H Q ⟨ρ, hid, ho, vr, h⟩ => (show Os X.K hid H [] Q from h) [] H [] (Ext.refl H) (fun _ z => nomatch z) .nil
theorem snd_cons {p : P} {ps : List P} {e : Expr} {es : List Expr} (hp : plainE e = true) (ha : PE X e (tP X.K G cl W p)) (hb : PA X es (tPs X.K G cl W ps)) : PA X (e :: es) (tPs X.K G cl W (p :: ps)) := by
  refine PA.mono (pa_cons ha hb (star_of hp es _)) fun σ H Q ⟨ρ, hid, ho, vr, h⟩ => ?_
  have h : POut X.K cl σ H hid W (Os X.K hid) (do
    let t ← p.ev G ρ
    let ts ← P.evs G ps ρ
    return t :: ts) Q := h
  refine ⟨ρ, hid, ho, vr, ?_⟩
  cases ep : p.ev G ρ with
  | no => rw [ep] at h; exact h.elim
  | ex c fs => rw [ep] at h; exact h
  | ok t =>
  rw [ep] at h
  intro v H1 fp s fr o
  have nf : ∀ a ∈ fp, a ∉ hid := fun a ha => ho.fresh (fr a ha)
  have ho1 : HidOk H1 (fp ++ hid) := (o.lists).app (ho.grow s)
  have apart : ∀ a u, H a = some u → a ∉ fp := fun a u e z => by
    have := fr a z
    rw [e] at this
    cases this
  have hm : Sub (hide H hid) (hide H1 (fp ++ hid)) := hide_mono fun a u n e => ⟨s a u e, fun z => (List.mem_append.mp z).elim (apart a u e) n⟩
  have vr1 : VR G cl X.K H1 (fp ++ hid) ρ σ := ⟨vr.len, ⟨s.tabs vr.x.tb, fun c fs e => ⟨(vr.x.hx c fs e).1, by
    obtain ⟨vs, x1, x2⟩ := (vr.x.hx c fs e).2
    exact ⟨vs, s _ _ x1, x2.sub hm⟩⟩⟩, fun i t e => by
    obtain ⟨w, e1, r1⟩ := vr.get i t e
    exact ⟨w, e1, r1.sub hm⟩⟩
  refine ⟨ρ, fp ++ hid, ho1, vr1, ?_⟩
  cases e : P.evs G ps ρ with
  | no => rw [e] at h; exact h.elim
  | ex c fs =>
    rw [e] at h
    refine fun H' d k x => (show ∀ H' d, Ext H H' → ExR X.K cl H' hid c fs d → W (.ref (cl.ca c)) (some d) σ H' from h) H' d (s.trans k) ?_
    obtain ⟨vs, x1, x2⟩ := x
    exact ⟨vs, x1, x2.sub (hide_less fun a ha => List.mem_append_right _ ha)⟩
  | ok ts =>
    rw [e] at h
    have h : Os X.K hid H (t :: ts) Q := h
    intro ws H2 fq s2 fr2 o2
    have new : ∀ a u, H1 a = some u → a ∉ fq := fun a u e z => by
      have := fr2 a z
      rw [e] at this
      cases this
    refine h (v :: ws) H2 (fp ++ fq) (s.trans s2) (fun a ha => (List.mem_append.mp ha).elim (fr a) fun z => none_sub s (fr2 a z)) (.cons ?_ ?_ fun a ha z => ?_)
    · refine o.keep ⟨hide_mono fun a u n e => ⟨s2 a u e, fun z => ?_⟩, fun a _ u e => s2 a u e, fun a xs e => s2 a _ e⟩
      rcases List.mem_append.mp z with z | z
      · rcases List.mem_append.mp z with z | z
        · exact n (List.mem_append_left _ z)
        · exact new a u e z
      · exact n (List.mem_append_right _ z)
    · refine o2.keep ⟨hide_less fun a ha => ?_, fun a _ u e => KeepO.of e, fun a xs e => e⟩
      simp only [List.mem_append] at ha ⊢
      rcases ha with (ha | ha) | ha
      · exact .inr (.inl ha)
      · exact .inl ha
      · exact .inr (.inr ha)
    · obtain ⟨u, e1, _⟩ := (o.lists) a ha
      exact new a u e1 z
theorem evs_len : ∀ {ps : List P} {ρ : Rho} {ts : List T}, P.evs G ps ρ = .ok ts → ts.length = ps.length
  | [], _, _, h => by cases h; rfl
  | p :: ps, ρ, ts, h => by
    have h : (do
      let t ← p.ev G ρ
      let ts ← P.evs G ps ρ
      return t :: ts) = R.ok ts := h
    cases e1 : p.ev G ρ with
    | no => rw [e1] at h; cases h
    | ex c fs => rw [e1] at h; cases h
    | ok t =>
      rw [e1] at h
      cases e2 : P.evs G ps ρ with
      | no => rw [e2] at h; cases h
      | ex c fs => rw [e2] at h; cases h
      | ok us =>
        rw [e2] at h
        cases h
        rw [List.length_cons, List.length_cons, evs_len e2]
theorem chks_len : ∀ {ps : List P} {es : List Expr}, P.chks S ps sc es = true → es.length = ps.length
  | [], [], _ => rfl
  | [], _ :: _, h => cfalse h
  | _ :: _, [], h => cfalse h
  | p :: ps, e :: es, h => by
    obtain ⟨_, h1⟩ := b2 (show (plainE e && (p.chk S sc e && P.chks S ps sc es)) = true from h)
    rw [List.length_cons, List.length_cons, chks_len (b2 h1).2]
theorem chks_plain : ∀ {ps : List P} {es : List Expr}, P.chks S ps sc es = true → ∀ e ∈ es, plainE e = true
  | [], [], _ => fun _ z => nomatch z
  | [], _ :: _, h => cfalse h
  | _ :: _, [], h => cfalse h
  | p :: ps, e :: es, h => by
    obtain ⟨h0, h1⟩ := b2 (show (plainE e && (p.chk S sc e && P.chks S ps sc es)) = true from h)
    intro x hx
    rcases List.mem_cons.mp hx with z | z
    · rw [z]; exact h0
    · exact chks_plain (b2 h1).2 x z
theorem snd_lst {ps : List P} {es : List Expr} {pos : Pos} (hl : ps.length ≤ 1000) (ha : PA X es (tPs X.K G cl W ps)) : PE X (.List es pos) (tP X.K G cl W (.lst ps)) := by
  refine PE.mono (pe_lst ha) fun σ H Q ⟨ρ, hid, ho, vr, h⟩ => ⟨ρ, hid, ho, vr, ?_⟩
  have h : POut X.K cl σ H hid W (O1 X.K hid) (do return .lst (← P.evs G ps ρ)) Q := h
  cases e : P.evs G ps ρ with
  | no => rw [e] at h; exact h.elim
  | ex c fs => rw [e] at h; exact h
  | ok ts =>
    rw [e] at h
    intro vs H1 fp s fr o
    refine ⟨?_, fun p hp => owns_lst (out_of h) s fr o hp⟩
    rw [o.length, evs_len e, sizeLine_eq]
    omega
theorem snd_tup {ps : List P} {es : List Expr} {k : Nat} {pos : Pos} (hl : ps.length ≤ 1000) (ha : PA X es (tPs X.K G cl W ps)) : PE X (.Tuple es k pos) (tP X.K G cl W (.tup ps)) := by
  refine PE.mono (pe_tup ha) fun σ H Q ⟨ρ, hid, ho, vr, h⟩ => ⟨ρ, hid, ho, vr, ?_⟩
  have h : POut X.K cl σ H hid W (O1 X.K hid) (do return mkTup (← P.evs G ps ρ)) Q := h
  cases e : P.evs G ps ρ with
  | no => rw [e] at h; exact h.elim
  | ex c fs => rw [e] at h; exact h
  | ok ts =>
    rw [e] at h
    intro vs H1 fp s fr o
    refine ⟨?_, fun p hp => owns_tup ho (out_of h) s fr o hp⟩
    rw [o.length, evs_len e, sizeLine_eq]
    omega
end
end Gn

set_option Elab.async false
set_option linter.all false
set_option maxRecDepth 100000
set_option maxHeartbeats 4000000
namespace Gn
open PySem PySem.Spec PyProof.Rows L2
variable [Tbls]

/-! ### sort keys -/
theorem vis_b {sc : Scope} {x : Str} (h : visB sc x = true) : Vis sc x := by
  unfold visB at h
  split at h <;> first | (rename_i e; first | exact .inl e | exact .inr (.inl e) | exact .inr (.inr e)) | cases h
theorem atI_nn {α : Type} {xs : List α} {i : Int} {v : α} (h0 : 0 ≤ i) (h : xs[i.toNat]? = some v) : atI xs i = some v := by
  have hl := (List.getElem?_eq_some_iff.mp h).1
  unfold atI ixN
  rw [if_pos (by omega), if_pos (by omega)]
  exact h
mutual
theorem reads_nl {h : Heap} : ∀ {d : D} {u : Value} {as : List Addr}, nl d = true → PySem.Reads h u d as → as = []
  | _, _, _, _, .none => rfl
  | _, _, _, _, .bool _ => rfl
  | _, _, _, _, .int _ _ => rfl
  | _, _, _, _, .str _ _ => rfl
  | _, _, _, n, .list _ _ _ _ => by cases n
  | _, _, _, n, .tuple _ _ _ r => reads_nls n r
  | _, _, _, n, .dict _ _ _ _ _ => by cases n
theorem reads_nls {h : Heap} : ∀ {ds : List D} {us : List Value} {as : List Addr}, nls ds = true → PySem.ReadsAll h us ds as → as = []
  | _, _, _, _, .nil => rfl
  | _, _, _, n, .cons r rs => by
    obtain ⟨n1, n2⟩ := b2 (show (nl _ && nls _) = true from n)
    rw [reads_nl n1 r, reads_nls n2 rs]
    rfl
end
def VRk (K : PySem.W.Frag) (ρ : Rho) (σ : St) (H : Hp) : Prop := ∀ (j : Nat) (t : T), ρ[j]? = some (some t) → ∃ v, σ[j]? = some (some v) ∧ Rep K H t.d v
theorem VRk.sub {K : PySem.W.Frag} {ρ : Rho} {σ : St} {H H1 : Hp} (h : VRk K ρ σ H) (s : Sub H H1) : VRk K ρ σ H1 := fun j t e => by
  obtain ⟨v, a, b⟩ := h j t e
  exact ⟨v, a, b.sub s⟩
def tKy (K : PySem.W.Frag) (q : Ky) : TE := fun σ H Q => ∃ ρ d, VRk K ρ σ H ∧ q.ev ρ = some d ∧ ∀ x H1, Sub H H1 → Rep K H1 d x → Q x H1
theorem PEp.mono {X : Cx} {e : Expr} {t t' : TE} (h : PEp X e t) (k : ∀ σ H Q, t' σ H Q → t σ H Q) : PEp X e t' := ⟨fun pins s σ H Q I q => h.go pins s σ H Q I (k σ H Q q)⟩
theorem ev_two {a b : Ky} {ρ : Rho} {f : D → D → Option D} {d : D} (h : (match a.ev ρ, b.ev ρ with
    | some x, some y => f x y
    | _, _ => none) = some d) : ∃ x y, a.ev ρ = some x ∧ b.ev ρ = some y ∧ f x y = some d := by
  cases e1 : a.ev ρ with
  | none => rw [e1] at h; cases h
  | some x =>
    cases e2 : b.ev ρ with
    | none => rw [e1, e2] at h; cases h
    | some y =>
      rw [e1, e2] at h
      exact ⟨x, y, rfl, rfl, h⟩
theorem ky_ix {K : PySem.W.Frag} {H : Hp} {da db d : D} {x y : V} {Q : VK} (e : ixK da db = some d) (rx : Rep K H da x) (ry : Rep K H db y) (k : ∀ v, Rep K H d v → Q v H) : rPx K x y H Q := by
  have gen : ∀ {ds : List D} {vs : List V} {i : Int}, Reps K H ds vs → (if 0 ≤ i then ds[i.toNat]? else none) = some d → 0 ≤ i ∧ ∃ v, atI vs i = some v ∧ Rep K H d v := fun {ds vs i} r h => by
    by_cases c : 0 ≤ i
    · rw [if_pos c] at h
      obtain ⟨v, e1, e2⟩ := r.get h
      exact ⟨c, v, atI_nn c e1, e2⟩
    · rw [if_neg c] at h
      cases h
  cases da with
  | list ds =>
    cases db with
    | int i =>
      cases rx with
      | lst sq r =>
        cases ry
        obtain ⟨c, v, e1, e2⟩ := gen r e
        exact ⟨_, _, i, v, rfl, rfl, .inl sq, c, e1, k v e2⟩
    | _ => cases e
  | tuple ds =>
    cases db with
    | int i =>
      cases rx with
      | tup sq r =>
        cases ry
        obtain ⟨c, v, e1, e2⟩ := gen r e
        exact ⟨_, _, i, v, rfl, rfl, .inr sq, c, e1, k v e2⟩
    | _ => cases e
  | _ => cases e
theorem ky_sound {X : Cx} {N : List Str} {lsc : Scope} (hN : X.N = N) (hs : X.env.scope = lsc) : ∀ (q : Ky) {e : Expr}, q.chk N lsc e = true → PEp X e (tKy X.K q)
  | .v i, e, h => by
    cases e with
    | Name x pos =>
      obtain ⟨h1, h⟩ := b2 (show (decide (N[i]? = some x) && (visB lsc x && okName x)) = true from h)
      obtain ⟨h2, h3⟩ := b2 h
      obtain ⟨k1, k2, _⟩ := okN h3
      refine PEp.mono (pp_var (i := i) (by rw [hN]; exact of_decide_eq_true h1) (by rw [hs]; exact vis_b h2) k1 k2) fun σ H Q ⟨ρ, d, vr, e, k⟩ => ?_
      have e : (match ρ[i]? with
        | some (some t) => some t.d
        | _ => none) = some d := e
      split at e
      · rename_i t et
        cases e
        obtain ⟨v, a, b⟩ := vr i t et
        exact ⟨v, a, k v H (Sub.refl H) b⟩
      · cases e
    | _ => exact cfalse h
  | .n k, e, h => by
    cases e with
    | Constant c j pos =>
      cases c with
      | int m =>
        have h1 := of_decide_eq_true (show decide (k = m) = true from h)
        subst h1
        refine PEp.mono pp_int fun σ H Q ⟨ρ, d, vr, e, q⟩ => ?_
        cases e
        exact q _ H (Sub.refl H) (.int _)
      | _ => exact cfalse h
    | _ => exact cfalse h
  | .ix a b, e, h => by
    cases e with
    | Subscript o i pos =>
      obtain ⟨h1, h⟩ := b2 (show (plainE i && (a.chk N lsc o && b.chk N lsc i)) = true from h)
      obtain ⟨h2, h3⟩ := b2 h
      refine PEp.mono (pp_ix (ky_sound hN hs a h2) (ky_sound hN hs b h3) (plainIx h1)) fun σ H Q ⟨ρ, d, vr, e, k⟩ => ?_
      obtain ⟨x, y, e1, e2, e3⟩ := ev_two (f := ixK) e
      exact ⟨ρ, x, vr, e1, fun v H1 s1 r1 => ⟨ρ, y, vr.sub s1, e2, fun w H2 s2 r2 => ky_ix e3 (r1.sub s2) r2 fun z rz => k z H2 (s1.trans s2) rz⟩⟩
    | _ => exact cfalse h
  | .pr a b, e, h => by
    cases e with
    | Tuple es c pos =>
      match es, h with
      | [o, i], h =>
        obtain ⟨h0, h⟩ := b2 (show (plainE o && (plainE i && (a.chk N lsc o && b.chk N lsc i))) = true from h)
        obtain ⟨h1, h⟩ := b2 h
        obtain ⟨h2, h3⟩ := b2 h
        refine PEp.mono (pp_pair (ky_sound hN hs a h2) (ky_sound hN hs b h3) (by rw [star_of h0, star_of h1]; rfl)) fun σ H Q ⟨ρ, d, vr, e, k⟩ => ?_
        obtain ⟨x, y, e1, e2, e3⟩ := ev_two (f := fun x y => some (.tuple [x, y])) e
        cases e3
        refine ⟨ρ, x, vr, e1, fun v H1 s1 r1 => ⟨ρ, y, vr.sub s1, e2, fun w H2 s2 r2 p hp => ?_⟩⟩
        have s3 : Sub H2 (upd H2 p (.tup [v, w])) := (sub_upd hp).sub
        exact k _ _ ((s1.trans s2).trans s3) (.tup (SqT.of upd_same) (.cons ((r1.sub s2).sub s3) (.cons (r2.sub s3) .nil)))
      | [], h => exact cfalse h
      | [_], h => exact cfalse h
      | _ :: _ :: _ :: _, h => exact cfalse h
    | _ => exact cfalse h
end Gn

set_option Elab.async false
set_option linter.all false
set_option maxRecDepth 100000
set_option maxHeartbeats 4000000
namespace Gn
open PySem PySem.Spec PyProof.Rows L2
variable [Tbls]

/-! ### what sorted walks over -/
theorem env_in2 {P : Program} {w : World} {K : PySem.W.Frag} {mg : Str → Option Value} {base : Heap} {A : Around} {outer : List Env} {s : Shared} {H : Hp} (e : Env0 P w K mg base A outer s H) : Env0 P w K mg base A.in1.in1 outer s H := ⟨e.frames, e.mod, e.bs, e.bsz, e.funs, e.frf, e.hok, e.bare⟩
abbrev RV : Value → D × V → Prop := fun v b => RelV b.2 v
def Cls (X : Cx) (H1 : Hp) (x : V) (bs : List (D × V)) : Prop := ∀ (pins : List (Addr × Obj)) (σ : St) (s2 : Shared) (H2 : Hp) (u : Value), Inv X pins σ H2 s2 → Ext H1 H2 → RelV x u → ∀ (B : Around) (Q1 : List Value → Shared → Prop) (E1 : Value → Shared → Prop), B.handled = X.A.handled →
  (∀ vs h1 t1, (∀ b o, s2.heap.get? b = some o → h1.get? b = some o) → PySem.W.EachIs RV vs bs → Q1 vs { s2 with heap := h1, toks := t1 }) → wpAny (model X.prog X.w) B (collect u) Q1 E1 s2
theorem cls_list {X : Cx} {H1 B0 : Hp} {a : Addr} {vs : List V} {ds : List D} (sq : SqL X.K H1 a vs) (r : Reps X.K B0 ds vs) (few : ds.length ≤ sizeLine) : Cls X H1 (.ref a) (ds.zip vs) := by
  intro pins σ s2 H2 u J en ru B Q1 E1 hB k
  cases ru
  obtain ⟨its, rv, hl, hz⟩ := J.list (sqL_sub en.sub sq)
  obtain ⟨e, _⟩ := r.each rv
  have li : its.length ≤ sizeLine := by rw [← rv.length, r.length]; exact few
  refine collect_list hl.isList (k its _ s2.toks (fun b o z => ?_) (e.mono fun _ _ q => q.2)) li
  have ne : b ≠ s2.heap.objs.size := Nat.ne_of_lt (Heap.lt_size z)
  exact ((Heap.SameBut.update (s2.heap.push (seqObj "list" #[] 0)) s2.heap.objs.size (Obj.mapSeq (· ++ its.toArray))).2 b ne).trans (Heap.get?_push_of_some _ z)
theorem cls_rng {X : Cx} {H1 : Hp} {a : Addr} {n : Int} (e : H1 a = some (.rng 0 n)) (n0 : 0 ≤ n) (n1 : n ≤ 16777216) (hc : X.A.handled = none) : Cls X H1 (.ref a) ((List.range n.toNat).map fun (k : Nat) => (.int (k : Int), V.int (k : Int))) := by
  intro pins σ s2 H2 u J en ru B Q1 E1 hB k
  cases ru
  obtain ⟨t, u, v, at_⟩ := J.hok a _ (en a _ e)
  have sz := rangeSize_nat 0 n
  rw [Int.sub_zero] at sz
  refine collect_range (n := n.toNat) (by rw [hB]; exact hc) at_ (small_one (by omega) (by omega) (by omega) (by omega)) sz (by omega) fun h' tk acc kp it => k _ h' tk kp ?_
  refine PySem.W.EachIs.of_zip (by rw [List.length_map, List.length_range, Array.length_toList]; exact it.1) fun p hp => ?_
  obtain ⟨j, hj⟩ := List.mem_iff_getElem?.mp hp
  rw [List.getElem?_zip_eq_some] at hj
  obtain ⟨j1, j2⟩ := hj
  obtain ⟨t', et⟩ := it.2 j p.1 (by simpa using j1)
  rw [List.getElem?_map] at j2
  cases q : (List.range n.toNat)[j]? with
  | none => rw [q] at j2; cases j2
  | some m =>
    rw [q] at j2
    have m1 : m = j := by
      obtain ⟨l, q2⟩ := List.getElem?_eq_some_iff.mp q
      simpa using q2.symm
    have j2 : (PyData.int (m : Int), V.int (m : Int)) = p.2 := Option.some.inj j2
    show RelV p.2.2 p.1
    rw [et, ← j2, m1]
    exact ⟨t', by simp⟩
theorem cr_range1 {X : Cx} : CallR X (.type "range") (fun vs H Q => ∃ j, vs = [V.int j] ∧ ∀ p, H p = none → Q (.ref p) (upd H p (.rng 0 j))) := by
  intro pins s σ H vs us Q J r h
  obtain ⟨j, rfl, q⟩ := h
  obtain ⟨u1, rfl, rj⟩ := vals1' r
  obtain ⟨t, rfl⟩ := rj
  exact call_range_1 ⟨.ref _, upd H s.heap.objs.size (.rng 0 j), J.laid (t' := s.toks + 1 + 1) (fun b o e => Heap.get?_push_of_some _ e) (Nat.le_refl _) ⟨_, _, _, Heap.get?_push_size _ rfl⟩, rfl, q _ (J.hok.fresh (Nat.le_refl _))⟩
end Gn

set_option Elab.async false
set_option linter.all false
set_option maxRecDepth 100000
set_option maxHeartbeats 4000000
namespace Gn
open PySem PySem.Spec PyProof.Rows L2
variable [Tbls]

/-! ### a lambda is made: the heap has grown, but for its table -/
section
variable {X : Cx} {pins : List (Addr × Obj)} {σ : St} {H : Hp} {s : Shared}
theorem lam_make3 {c P : Addr} {params : Arguments} {body : Expr} {scope : Scope} {pos : Pos} {E Q : Value → Shared → Prop} (J : Inv X pins σ H s) (B : LamX.TabB X.base X.mg c P) (ec : X.env.code = .ref c)
    (mem : (P, X.env.qual ++ "<lambda>") ∈ Tbls.L) (uniq : ∀ p ∈ Tbls.L, p.1 = P → p.2 = X.env.qual ++ "<lambda>") (tabs : TabsH H) (dflt : defaultsOf params X.env = ([], [])) (free : ∀ y ∈ scope.names, y.2 = .free → ∃ d, X.env.cells.lookup y.1 = some d)
    (k : ∀ (f c' : Addr) (pm ctv : Value) (H1 : Hp) (s1 : Shared), Inv X pins σ H1 s1 → Ext H H1 → s1.heap.get? f = some (PySem.W.kla_obj "<lambda>" (X.env.qual ++ "<lambda>") params body scope (cloFrom X.env.cells scope.names []) pm c' ctv) → H1 c' = some (LamX.CodeO c' (X.env.qual ++ "<lambda>")) → Q (.ref f) s1) :
    wpAny (model X.prog X.w) X.A (eval (.Lambda params body scope pos) X.env) Q E s := by
  obtain ⟨ps, tP, tri, named⟩ := tabs _ mem
  have hP : s.heap.get? P = some { cls := .none, data := .fields ps } := J.hok P _ tP
  refine PySem.W.kla_eval dflt ?_
  cases ca : codeAmong pos ps.toList with
  | some cv =>
    obtain ⟨c', ecv, eC⟩ := named pos cv ca
    subst ecv
    refine PySem.W.kla_makeFunctionHit (mg := X.mg) (c := c) (P := P) (ps := ps) (closure_ok free) J.ok.glob (J.mod.glob.keeps J.bk) ec (B.code.keeps J.bk) hP tri ca (B.bm.keeps J.bk) fun ctv g tk kp _ => ?_
    exact k g.objs.size c' ((X.mg "__name__").getD .none) ctv H _ (J.kept (t' := tk) fun b o e => Heap.get?_push_of_some _ (kp b o e)) (Ext.refl H) (Heap.get?_push_size _ rfl) eC
  | none =>
    refine PySem.W.kla_makeFunction (mg := X.mg) (c := c) (P := P) (ps := ps) (closure_ok free) J.ok.glob (J.mod.glob.keeps J.bk) ec (B.code.keeps J.bk) hP tri ca B.gP (B.bm.keeps J.bk) fun c' ctv g tk kp ge lt rec_ tb => ?_
    obtain ⟨c2, oc, vs, t, e2, eo, ed, ev⟩ := rec_
    cases e2
    have nC : H c' = none := J.hok.fresh ge
    have nP : P ≠ c' := ne_of_none tP nC
    have J1 := LamX.inv_table (t' := tk) (more := #[rawInt pos.line, rawInt pos.col, .ref c']) (h' := g.push (PySem.W.kla_obj "<lambda>" (X.env.qual ++ "<lambda>") params body scope (cloFrom X.env.cells scope.names []) ((X.mg "__name__").getD .none) c' ctv)) J tP
      (fun b o nb e => Heap.get?_push_of_some _ (kp b o nb e)) (Heap.get?_push_of_some _ tb) ge ⟨oc, vs, t, Heap.get?_push_of_some _ eo, ed, ev⟩
    have other : ∀ a o, H a = some o → a ≠ P → upd (upd H P (.tbl (ps ++ #[rawInt pos.line, rawInt pos.col, .ref c']))) c' (LamX.CodeO c' (X.env.qual ++ "<lambda>")) a = some o := fun a o e na => by
      rw [upd_ne (ne_of_none e nC), upd_ne na]
      exact e
    have atP : upd (upd H P (.tbl (ps ++ #[rawInt pos.line, rawInt pos.col, .ref c']))) c' (LamX.CodeO c' (X.env.qual ++ "<lambda>")) P = some (.tbl (ps ++ #[rawInt pos.line, rawInt pos.col, .ref c'])) := by
      rw [upd_ne nP, upd_same]
    have code : ∀ (a : Addr) (q : Str), H a = some (LamX.CodeO a q) → a ≠ P := fun a q e z => by
      rw [z, tP] at e
      exact LamX.codeO_ne ps (Option.some.inj e).symm
    have ext : Ext H (upd (upd H P (.tbl (ps ++ #[rawInt pos.line, rawInt pos.col, .ref c']))) c' (LamX.CodeO c' (X.env.qual ++ "<lambda>"))) := by
      refine ⟨fun a o e => ?_, fun _ p hp => ?_⟩
      · by_cases na : a = P
        · subst na
          rw [tP] at e
          cases e
          exact ⟨_, atP⟩
        · exact KeepO.of (other a o e na)
      · by_cases hb : p.1 = P
        · rw [uniq p hp hb, hb]
          have el : (ps ++ #[rawInt pos.line, rawInt pos.col, .ref c']).toList = ps.toList ++ [rawInt pos.line, rawInt pos.col, .ref c'] := by simp
          refine ⟨_, atP, by rw [el]; exact PySem.TriplesOk_snoc _ _ _ _ tri, fun p' cv hcv => ?_⟩
          rw [el] at hcv
          rcases LamX.among_app _ tri hcv with z | z
          · obtain ⟨c0, e1, e2⟩ := named p' cv z
            exact ⟨c0, e1, other _ _ e2 (code _ _ e2)⟩
          · exact ⟨c', z, upd_same⟩
        · obtain ⟨ps', a1, a2, a3⟩ := tabs p hp
          refine ⟨ps', other _ _ a1 hb, a2, fun p' cv hcv => ?_⟩
          obtain ⟨c0, e1, e2⟩ := a3 p' cv hcv
          exact ⟨c0, e1, other _ _ e2 (code _ _ e2)⟩
    exact k g.objs.size c' ((X.mg "__name__").getD .none) ctv _ _ J1 ext (Heap.get?_push_size _ rfl) upd_same
end
end Gn

set_option Elab.async false
set_option linter.all false
set_option maxRecDepth 100000
set_option maxHeartbeats 4000000
namespace Gn
open PySem PySem.Spec PyProof.Rows L2
variable [Tbls]

theorem onePar_ok {a : Arguments} {x : Str} (h : onePar a x = true) : a = ⟨[], a.args, none, [], [], none, []⟩ ∧ a.args.map (·.arg) = [x] := by
  obtain ⟨h1, h⟩ := b2 h
  obtain ⟨h2, h⟩ := b2 h
  obtain ⟨h3, h⟩ := b2 h
  obtain ⟨h4, h⟩ := b2 h
  obtain ⟨h5, h⟩ := b2 h
  obtain ⟨h6, h7⟩ := b2 h
  obtain ⟨a1, a2, a3, a4, a5, a6, a7⟩ := a
  have e1 : a1 = [] := List.isEmpty_iff.mp h1
  have e2 : a3 = none := Option.isNone_iff_eq_none.mp h2
  have e3 : a4 = [] := List.isEmpty_iff.mp h3
  have e4 : a5 = [] := List.isEmpty_iff.mp h4
  have e5 : a6 = none := Option.isNone_iff_eq_none.mp h5
  have e6 : a7 = [] := List.isEmpty_iff.mp h6
  subst e1 e2 e3 e4 e5 e6
  exact ⟨rfl, of_decide_eq_true h7⟩
theorem VRk.set {K : PySem.W.Frag} {ρ : Rho} {σ : St} {H : Hp} {i : Nat} {d : D} {v : V} (h : VRk K ρ σ H) (hi : i < σ.length) (r : Rep K H d v) : VRk K (ρ.set i (some (.fz d))) (σ.set i (some v)) H := fun j t e => by
  by_cases c : i = j
  · subst c
    have hl : i < ρ.length := by
      have := (List.getElem?_eq_some_iff.mp e).1
      rwa [List.length_set] at this
    rw [List.getElem?_set_self hl] at e
    cases e
    exact ⟨v, List.getElem?_set_self hi, r⟩
  · rw [List.getElem?_set_ne c] at e
    rw [List.getElem?_set_ne c]
    exact h j t e
/-- the sort, by its items and their keys -/
def keyB (f : D → Option D) (b : D × V) : D := kyD f b.1
def SortW (X : Cx) (q : Ky) (i : Nat) (σ : St) (x : V) (H1 : Hp) (Q : VK) : Prop := ∃ bs ρ, Cls X H1 x bs ∧ bs.length ≤ sizeLine ∧ VRk X.K ρ σ H1 ∧ TabsH H1 ∧ (∀ b ∈ bs, Rep X.K H1 b.1 b.2) ∧
  (∀ b ∈ bs, ((q.ev (ρ.set i (some (.fz b.1)))).isSome && nl (kyD (fun d => q.ev (ρ.set i (some (.fz d)))) b.1)) = true) ∧ sdOk (bs.map (keyB fun d => q.ev (ρ.set i (some (.fz d))))) = true ∧
  ∀ H2 p, Ext H1 H2 → H2 p = none → Q (.ref p) (upd H2 p (.lst ((bs.mergeSort (PySem.W.dataLe false (keyB fun d => q.ev (ρ.set i (some (.fz d)))))).map Prod.snd)))
theorem each_vals : ∀ {us : List Value} {bs : List (D × V)}, PySem.W.EachIs RV us bs → Vals (bs.map Prod.snd) us
  | _, _, .nil => .nil
  | _, _, .cons h t => .cons h (each_vals t)
theorem pe_sortk {X : Cx} {arg body : Expr} {ta : TE} {params : Arguments} {lsc : Scope} {a : Str} {N : List Str} {i : Nat} {q : Ky} {c P : Addr} {p1 lp kp pos : Pos} (hr : Room 3 X.A) (hC : X.calm = true) (B : LamX.TabB X.base X.mg c P) (ec : X.env.code = .ref c) (mem : (P, X.env.qual ++ "<lambda>") ∈ Tbls.L)
    (uniq : ∀ p ∈ Tbls.L, p.1 = P → p.2 = X.env.qual ++ "<lambda>") (hg : Gl X "sorted") (hm : X.mg "sorted" = none) (nod : X.N.Nodup) (hN : X.N = N) (ha : PE X arg ta) (pl : plainE arg = true) (L : Lam1 X.env.scope lsc a) (ia : X.N[i]? = some a) (hp : onePar params a = true) (hq : q.chk N lsc body = true) :
    PE X (.Call (.Name "sorted" p1) [arg] [⟨some "key", .Lambda params body lsc lp, kp⟩] pos) (fun σ H Q => ta σ H fun x H1 => SortW X q i σ x H1 Q) := by
  obtain ⟨pr, pas⟩ := onePar_ok hp
  have dflt : defaultsOf params X.env = ([], []) := by
    rw [pr]
    rfl
  refine ⟨fun pins s σ H Q J h => ?_⟩
  refine wpAny_Call_Name_kw (ld_blt J hg hm rfl ?_ (by decide) (by decide))
  have pa : PA X [arg] (tCons ta tNil) := pa_cons ha pa_nil (star_of pl [] _)
  refine PyProof.Rows.callWith_kw (thn (pa.run pos pins s σ H (fun vs H1 => match vs with
    | [x] => SortW X q i σ x H1 Q
    | _ => False) J h) fun us s1 ⟨vs, H1, J1, r1, q1⟩ => ?_) (by rw [star_of pl]; rfl) (by rw [star_of pl]; rfl) rfl rfl
  match vs, r1, q1 with
  | [x], r1, q1 =>
    obtain ⟨u, rfl, ru⟩ := vals1' r1
    obtain ⟨bs, ρ, cls, few, vr, tabs, reps, kok, sok, fin⟩ := q1
    show wpAny _ _ (evalAll [(do let v ← eval (.Lambda params body lsc lp) X.env; standAt pos; pure v)]) _ _ s1
    refine wpAny_evalAll_cons (wpAny_bind (lam_make3 J1 B ec mem uniq tabs dflt (L.caught J1.ok) fun f c' pm ctv H2 s2 J2 ext hf hco => wpAny_bind (wpAny_standAt (wpAny_pure ?_))))
    refine wpAny_evalAll_nil ?_
    show wpAny _ _ (call (.builtin "sorted") [u] [(Str.ofString "key", .ref f)]) _ _ s2
    generalize hkf : (fun d => q.ev (ρ.set i (some (.fz d)))) = kf at *
    obtain ⟨al, so, _, dps⟩ := sd_parts sok
    have un := hr.un
    refine sorted_keyed (bs := bs) (R := RV) (keyB kf) al so few (fun b hb => ?_) (fun A' Q1 E1 hA k => cls pins σ s2 H2 u J2 ext ru A' Q1 E1 hA k) (fun v b hv hb h2 tk kp2 => ?_) fun p out n h3 t3 ⟨g, kg, kgh, ep⟩ k3 at_ ea => ?_
    · have := (dps (keyB kf b) (List.mem_map_of_mem hb)).1
      omega
    · have J3 : Inv X pins σ H2 { s2 with heap := h2, toks := tk } := J2.kept (t' := tk) kp2
      obtain ⟨ko, kn⟩ := b2 (kok b hb)
      have ko2 : (kf b.1).isSome = true := by
        rw [← hkf]
        exact ko
      have ek : kf b.1 = some (kyD kf b.1) := by
        unfold kyD
        cases e : kf b.1 with
        | none => rw [e] at ko2; cases ko2
        | some z => rfl
      have li : i < σ.length := by
        rw [J2.len]
        exact (List.getElem?_eq_some_iff.mp ia).1
      have rb : Rep X.K H2 b.1 b.2 := (reps b hb).sub ext.sub
      have vr2 : VRk X.K (ρ.set i (some (.fz b.1))) (σ.set i (some b.2)) H2 := (vr.sub ext.sub).set li rb
      have call := lam1_call (A := X.A.in1.in1) (i := i) (xv := b.2) (v := v) (Q := fun x H' => Rep X.K H' (kyD kf b.1) x) (tb := tKy X.K q) (body := body) (params := params) (pos := pos) J3 L ia nod (env_in2 J3.env0) ((hr.in1).in1.mono (by omega)) (kp2 _ _ hf) hco pr pas
        (fun s0 => ky_sound (X := LamX.lamCx X X.A.in1.in1 X.stack { s2 with heap := h2, toks := tk } H2 (fun _ _ _ => False) lsc f c') (N := N) (lsc := lsc) hN rfl q hq) hv ⟨_, _, vr2, (show q.ev (ρ.set i (some (.fz b.1))) = kf b.1 by rw [← hkf]).trans ek, fun y H' _ r => r⟩
      refine wpAny_mono call (fun w s3 z => ?_) fun _ _ z => z
      obtain ⟨y, H4, h4, t4, e4, k4, hk4, ⟨Y, pins', σ', y1, y2, y3, JY⟩, ry, rk⟩ := z
      refine ⟨h4, t4, e4, k4, ?_⟩
      have nk := (dps (keyB kf b) (List.mem_map_of_mem hb)).2
      rw [← y1] at rk
      obtain ⟨as, rd⟩ := Dp.reads JY (kyD kf b.1) y w (rk.dp nk) ry
      have e0 := reads_nl kn rd
      rw [e0, e4] at rd
      exact rd
    · subst ep
      have Jg : Inv X pins σ H2 { s2 with heap := g, toks := t3 } := J2.kept (t' := t3) kg
      have fr : H2 g.objs.size = none := Jg.hok.fresh (Nat.le_refl _)
      have lb : (bs.mergeSort (PySem.W.dataLe false (keyB kf))).length = bs.length := (List.mergeSort_perm _ _).length_eq
      refine ⟨.ref g.objs.size, upd H2 g.objs.size (.lst ((bs.mergeSort (PySem.W.dataLe false (keyB kf))).map Prod.snd)), Jg.laid (t' := t3) kgh (Nat.le_refl _) ⟨by rw [List.length_map, lb]; exact few, out, n, each_vals ea, at_⟩, rfl, ?_⟩
      exact fin H2 _ ext fr
  | [], r1, q1 => exact q1.elim
  | _ :: _ :: _, r1, q1 => exact q1.elim
end Gn

set_option Elab.async false
set_option linter.all false
set_option maxRecDepth 100000
set_option maxHeartbeats 4000000
namespace Gn
open PySem PySem.Spec PyProof.Rows L2
variable [Tbls]

theorem reps_pairs {K : PySem.W.Frag} {H : Hp} : ∀ {bs : List (D × V)}, (∀ b ∈ bs, Rep K H b.1 b.2) → Reps K H (bs.map Prod.fst) (bs.map Prod.snd)
  | [], _ => .nil
  | b :: bs, h => .cons (h b (by simp)) (reps_pairs fun c hc => h c (by simp [hc]))
section
variable {S : Sx} {G : Gam} {cl : Cl} {sc : Scope} {X : Cx} {W : WX}
theorem sortW_of {q : Ky} {i : Nat} {ρ : Rho} {σ : St} {x : V} {H1 : Hp} {hid : List Addr} {bs : List (D × V)} {Q : VK} (ho : HidOk H1 hid) (vr : VR G cl X.K H1 hid ρ σ) (cls : Cls X H1 x bs) (reps : ∀ b ∈ bs, Rep X.K (hide H1 hid) b.1 b.2)
    (h : POut X.K cl σ H1 hid W (O1 X.K hid) (srtKD (fun d => q.ev (ρ.set i (some (.fz d)))) (bs.map Prod.fst)) Q) : SortW X q i σ x H1 Q := by
  unfold srtKD at h
  split at h
  · rename_i c
    obtain ⟨c1, c2⟩ := c
    have h : Out X.K H1 hid (.lst (fzs ((bs.map Prod.fst).mergeSort (PySem.W.dataLe false (kyD fun d => q.ev (ρ.set i (some (.fz d)))))))) Q := h
    have em : (bs.map Prod.fst).map (kyD fun d => q.ev (ρ.set i (some (.fz d)))) = bs.map (keyB fun d => q.ev (ρ.set i (some (.fz d)))) := by
      rw [List.map_map]
      rfl
    rw [em] at c2
    obtain ⟨_, _, few, _⟩ := sd_parts c2
    rw [List.length_map] at few
    refine ⟨bs, ρ, cls, few, fun j t e => ?_, vr.x.tb, fun b hb => (reps b hb).sub (hide_sub _ _), fun b hb => ?_, c2, fun H2 p ext fr => ?_⟩
    · obtain ⟨v, a, b⟩ := vr.get j t e
      exact ⟨v, a, b.sub (hide_sub _ _)⟩
    · exact List.all_eq_true.mp c1 b.1 (List.mem_map_of_mem hb)
    · have es : (bs.mergeSort (PySem.W.dataLe false (keyB fun d => q.ev (ρ.set i (some (.fz d)))))).map Prod.fst = (bs.map Prod.fst).mergeSort (PySem.W.dataLe false (kyD fun d => q.ev (ρ.set i (some (.fz d))))) := PySem.W.sort_maps Prod.fst fun a _ b _ => rfl
      rw [← es] at h
      refine Out.lst (ho.grow ext) (h.grow ext) (reps_pairs fun b hb => ?_) fr
      exact (reps b ((List.mergeSort_perm _ _).mem_iff.mp hb)).sub (hide_grow ho ext)
  · exact h.elim
theorem lamB_ok {i : Nat} {q : Ky} {params : Arguments} {body : Expr} {lsc : Scope} (g : GX S G cl sc X W) (h : lamB S.N sc i q params body lsc = true) : ∃ a, X.N[i]? = some a ∧ onePar params a = true ∧ Lam1 X.env.scope lsc a ∧ q.chk S.N lsc body = true := by
  unfold lamB at h
  split at h
  · rename_i a e
    obtain ⟨h1, h⟩ := b2 h
    obtain ⟨h2, h3⟩ := b2 h
    have L := lam1_ok h2
    exact ⟨a, by rw [g.N]; exact e, h1, ⟨L.kind, L.co, L.gen, L.par, L.own, fun y hy e => (L.free y hy e).elim (fun z => .inl (g.sc.cel _ z)) fun z => g.sc.fre _ z⟩, h3⟩
  · cases h
theorem snd_srtl {p : P} {i : Nat} {q : Ky} {arg body : Expr} {params : Arguments} {lsc : Scope} {p1 lp kp pos : Pos} (g : GX S G cl sc X W) (hh : S.hot = false) (hl : S.lam = true) (b1 : S.bt.contains ("sorted" : Str) = true) (g1' : glB sc ("sorted" : Str) = true) (pl : plainE arg = true) (ha : PE X arg (tP X.K G cl W p)) (hb : lamB S.N sc i q params body lsc = true) :
    PE X (.Call (.Name ("sorted" : Str) p1) [arg] [⟨some ("key" : Str), .Lambda params body lsc lp, kp⟩] pos) (tP X.K G cl W (.srtl p i q)) := by
  obtain ⟨hr, c, P0, B, ec, mem, uniq⟩ := g.lm hl
  obtain ⟨a, ia, hp, L, hq⟩ := lamB_ok g hb
  refine PE.mono (pe_sortk hr (g.calm hh) B ec mem uniq (gl_of g.sc g1') (g.bt _ (mem_of b1)) g.nd g.N ha pl L ia hp hq) fun σ H Q ⟨ρ, hid, ho, vr, h⟩ => ?_
  refine ⟨ρ, hid, ho, vr, POut.imp m1 (POut.bind1 g1 h) fun v H1 ⟨t, fp, s, fr, o, h2⟩ => ?_⟩
  have r : Rep X.K (hide H1 hid) t.d v := o.seen ho s fr
  cases e : t.d with
  | list ds =>
    rw [e] at h2 r
    cases r with
    | @lst l vs _ sq rs =>
      have h2 : POut X.K cl σ H1 hid W (O1 X.K hid) (srtKD (fun d => q.ev (ρ.set i (some (.fz d)))) ds) Q := h2
      have lz := rs.length
      have mf : (ds.zip vs).map Prod.fst = ds := List.map_fst_zip (by omega)
      have few : ds.length ≤ sizeLine := by
        unfold srtKD at h2
        split at h2
        · rename_i c
          have := (sd_parts c.2).2.2.1
          simpa using this
        · exact h2.elim
      refine sortW_of (W := W) (ho.grow s) (vr.grow ho s) (cls_list (sqL_sub (hide_sub _ _) sq) rs few) (fun b hb => ?_) (by rw [mf]; exact h2)
      obtain ⟨j, hj⟩ := List.mem_iff_getElem?.mp hb
      rw [List.getElem?_zip_eq_some] at hj
      obtain ⟨w, e1, r1⟩ := rs.get hj.1
      rw [hj.2] at e1
      cases e1
      exact r1
  | _ => rw [e] at h2; exact h2.elim
theorem snd_srtr {p : P} {i : Nat} {q : Ky} {arg body : Expr} {params : Arguments} {lsc : Scope} {p1 p2 p3 lp kp pos : Pos} (g : GX S G cl sc X W) (hh : S.hot = false) (hl : S.lam = true) (b1 : S.bt.contains ("sorted" : Str) = true) (g1' : glB sc ("sorted" : Str) = true) (b2' : S.bt.contains ("range" : Str) = true) (g2' : glB sc ("range" : Str) = true)
    (pl : plainE arg = true) (ha : PE X arg (tP X.K G cl W p)) (hb : lamB S.N sc i q params body lsc = true) :
    PE X (.Call (.Name ("sorted" : Str) p1) [.Call (.Name ("range" : Str) p2) [arg] [] p3] [⟨some ("key" : Str), .Lambda params body lsc lp, kp⟩] pos) (tP X.K G cl W (.srtr p i q)) := by
  obtain ⟨hr, c, P0, B, ec, mem, uniq⟩ := g.lm hl
  obtain ⟨a, ia, hp, L, hq⟩ := lamB_ok g hb
  have hrg : PE X (.Call (.Name ("range" : Str) p2) [arg] [] p3) _ := pe_callTy cr_range1 (gl_of g.sc g2') (g.bt _ (mem_of b2')) boot_range (pa_cons ha pa_nil (star_of pl [] _)) (by decide) (by decide) (star_of pl [] _) rfl
  refine PE.mono (pe_sortk hr (g.calm hh) B ec mem uniq (gl_of g.sc g1') (g.bt _ (mem_of b1)) g.nd g.N hrg rfl L ia hp hq) fun σ H Q ⟨ρ, hid, ho, vr, h⟩ => ?_
  show tP X.K G cl W p σ H fun x H1 => ∃ j, [x] = [V.int j] ∧ ∀ r, H1 r = none → SortW X q i σ (.ref r) (upd H1 r (.rng 0 j)) Q
  refine ⟨ρ, hid, ho, vr, POut.imp m1 (POut.bind1 g1 h) fun v H1 ⟨t, fp, s, fr, o, h2⟩ => ?_⟩
  have r : Rep X.K (hide H1 hid) t.d v := o.seen ho s fr
  cases e : t.d with
  | int n =>
    rw [e] at h2 r
    cases r
    refine ⟨n, rfl, fun r hr0 => ?_⟩
    have h2 : POut X.K cl σ H1 hid W (O1 X.K hid) (if 0 ≤ n ∧ n ≤ 16777216 then srtKD (fun d => q.ev (ρ.set i (some (.fz d)))) ((List.range n.toNat).map fun (k : Nat) => .int (k : Int)) else .no) Q := h2
    by_cases c : 0 ≤ n ∧ n ≤ 16777216
    · rw [if_pos c] at h2
      have s2 : Ext H1 (upd H1 r (.rng 0 n)) := sub_upd hr0
      have mf : ((List.range n.toNat).map fun (k : Nat) => (PyData.int (k : Int), V.int (k : Int))).map Prod.fst = (List.range n.toNat).map fun (k : Nat) => .int (k : Int) := by
        rw [List.map_map]
        rfl
      refine sortW_of (W := W) ((ho.grow s).grow s2) ((vr.grow ho s).grow (ho.grow s) s2) (cls_rng upd_same c.1 c.2 hr.hd) (fun b hb => ?_) (by rw [mf]; exact POut.grow g1 h2 s2)
      obtain ⟨k, _, rfl⟩ := List.mem_map.mp hb
      exact .int _
    · rw [if_neg c] at h2
      exact h2.elim
  | _ => rw [e] at h2; exact h2.elim
end
end Gn

set_option Elab.async false
set_option linter.all false
set_option maxRecDepth 100000
set_option maxHeartbeats 4000000
namespace Gn
open PySem PySem.Spec PyProof.Rows L2 PySem.Calls PySem.W

/-! ### max(xs, key=f), xs a list, f's answers data without lists -/
mutual
theorem reads_tup {h h' : Heap} (k : ∀ b (o : Obj), o.cls = .type "tuple" → h.get? b = some o → h'.get? b = some o) : ∀ {d : D} {u : Value} {as : List Addr}, nl d = true → PySem.Reads h u d as → PySem.Reads h' u d as
  | _, _, _, _, .none => .none
  | _, _, _, _, .bool b => .bool b
  | _, _, _, _, .int i t => .int i t
  | _, _, _, _, .str x t => .str x t
  | _, _, _, n, .list _ _ _ _ => by cases n
  | _, _, _, n, .tuple e c d r => .tuple (k _ _ c e) c d (reads_tups k n r)
  | _, _, _, n, .dict _ _ _ _ _ => by cases n
theorem reads_tups {h h' : Heap} (k : ∀ b (o : Obj), o.cls = .type "tuple" → h.get? b = some o → h'.get? b = some o) : ∀ {ds : List D} {us : List Value} {as : List Addr}, nls ds = true → PySem.ReadsAll h us ds as → PySem.ReadsAll h' us ds as
  | _, _, _, _, .nil => .nil
  | _, _, _, n, .cons r rs => by
    obtain ⟨n1, n2⟩ := Bool.and_eq_true_iff.mp (show (nl _ && nls _) = true from n)
    exact .cons (reads_tup k n1 r) (reads_tups k n2 rs)
end
theorem argBest_le (bt : Nat → Nat → Bool) : ∀ k, argBest bt k ≤ k
  | 0 => Nat.le_refl _
  | k + 1 => by
    have := argBest_le bt k
    show (if bt (k + 1) (argBest bt k) then k + 1 else argBest bt k) ≤ k + 1
    split <;> omega
/-- a state whose heap keeps the objects of another -/
def Kp (s0 s : Shared) : Prop := ∃ h tk, s = { s0 with heap := h, toks := tk } ∧ ∀ b o, s0.heap.get? b = some o → h.get? b = some o
theorem Kp.moved {s0 s s' : Shared} {wr : List Addr} (k : Kp s0 s) (m : Moved wr (fun a b => b = a) s s') (hw : ∀ b ∈ wr, s0.heap.get? b = none) : Kp s0 s' := by
  obtain ⟨h, tk, rfl, kp⟩ := k
  refine ⟨s'.heap, s'.toks, ?_, fun b o e => m.heap b o (fun hb => by rw [hw b hb] at e; cases e) (kp b o e)⟩
  obtain ⟨m1, m2, m3, m4, m5⟩ := m
  cases s'
  simp only at m2 m3 m4
  subst m2 m3 m4
  rfl
theorem Kp.then {s0 s : Shared} (k : Kp s0 s) {h' : Heap} {tk : Nat} (kp : ∀ b o, s.heap.get? b = some o → s0.heap.get? b ≠ none → h'.get? b = some o) : Kp s0 { s with heap := h', toks := tk } := by
  obtain ⟨h, tk1, rfl, kq⟩ := k
  exact ⟨h', tk, rfl, fun b o e => kp b o (kq b o e) (by rw [e]; exact fun z => nomatch z)⟩
section
variable {prog : Program} {w : World} {A : Around} {R : Result → Shared → Prop} {s0 : Shared} {it l S fa : Addr} {vs : Array Value} {key : Nat → PyData}
/-- what the walk needs of the keys -/
structure MaxK (prog : Program) (w : World) (A : Around) (s0 : Shared) (fa : Addr) (vs : Array Value) (key : Nat → PyData) : Prop where
  nl : ∀ i, i < vs.size → nl (key i) = true
  al : ∀ i j, i < vs.size → j < vs.size → alike (key i) (key j) = true
  nn : ∀ i, i < vs.size → key i ≠ .none
  room : ∀ i, i < vs.size → A.units + 1 + (key i).depth < cLine
  turn : ∀ i v, vs[i]? = some v → ∀ s, Kp s0 s → wpAny (model prog w) A.in1 (call (.ref fa) [v]) (KeyPure (key i) s) (fun _ _ => False) s
abbrev btK (key : Nat → PyData) (i j : Nat) : Bool := dataLt (key j) (key i)
theorem lt_of_get {v : Value} {i : Nat} (h : vs[i]? = some v) : i < vs.size := by
  by_cases c : i < vs.size
  · exact c
  · rw [Array.getElem?_eq_none (by omega)] at h; cases h
theorem max_loopK (K : MaxK prog w A s0 fa vs key) (W : WalksS prog w A.in1 it [it, l] [it] (fun a b => b = a) vs.size (fun i v => vs[i]? = some v) (fun i s' => s'.heap.IsListIter it l i ∧ s'.heap.IsList l vs))
    (hS : s0.heap.get? S = none) (hi : s0.heap.get? it = none) (ne : S ≠ it) (nl' : S ≠ l) (kw : List (Str × Value)) :
    ∀ (k j : Nat) (s : Shared) (vb kb : Value) (c : Nat), vs.size - (j + 1) = k → j + 1 ≤ vs.size → Kp s0 s → (s.heap.IsListIter it l (j + 1) ∧ s.heap.IsList l vs) → vs[argBest (btK key) j]? = some vb → PySem.Reads s.heap kb (key (argBest (btK key) j)) [] →
    s.heap.get? S = some { cls := .type "list", dict := none, data := .seq #[vb, kb] c, slots := #[] } →
    (∀ v s', vs[argBest (btK key) (vs.size - 1)]? = some v → Kp s0 s' → R (.ok (.ret v)) s') → codeAny (model prog w) A (.builtin "max.loop" ⟨[.ref it, .ref fa, .ref S], kw⟩) R s := by
  have hname : (toString "max" ++ toString ".loop" : String) = "max.loop" := by decide
  have hw : ∀ b ∈ [it], s0.heap.get? b = none := fun b hb => by rw [List.mem_singleton.mp hb]; exact hi
  have Sw : S ∉ [it] := fun h => ne (List.mem_singleton.mp h)
  intro k
  induction k with
  | zero =>
    intro j s vb kb c hk hj kp st pb rb at_ fin
    have hin : j + 1 = vs.size := by omega
    refine codeAny_builtin PySem.F.entry_max_loop ?_
    rw [Around.under_plainId PySem.F.plain_max_loop _]
    refine wpAny_bind (wpAny_seqItems at_ rfl ?_)
    refine wpAny_bind (wpAny_tryCatch (W.done s _ _ (hin ▸ st) fun s' hm => ?_))
    have at2 := hm.heap S _ Sw at_
    refine wpAny_bind ?_
    refine wpAny_updateSeq at2 rfl (wpAny_bind (wpAny_letGo (wpAny_pure ?_)))
    have kp2 := kp.moved hm hw
    exact fin vb _ (by rw [← hin]; exact pb) (kp2.then (tk := s'.toks) fun b o e z => (Heap.get?_update_other _ _ (fun e2 => z (by rw [← e2]; exact hS))).trans e)
  | succ k ih =>
    intro j s vb kb c hk hj kp st pb rb at_ fin
    have hlt : j + 1 < vs.size := by omega
    have hbj : argBest (btK key) j < vs.size := by have := argBest_le (btK key) j; omega
    refine codeAny_builtin PySem.F.entry_max_loop ?_
    rw [Around.under_plainId PySem.F.plain_max_loop _]
    refine wpAny_bind (wpAny_seqItems at_ rfl ?_)
    refine wpAny_bind (wpAny_tryCatch (W.item (j + 1) s _ _ hlt st fun v s' hv st' hm => ?_))
    have at2 := hm.heap S _ Sw at_
    have kp2 := kp.moved hm hw
    have rb2 : PySem.Reads s'.heap kb (key (argBest (btK key) j)) [] := by
      refine reads_tup (fun b o tc e => hm.heap b o (fun hb => ?_) e) (K.nl _ hbj) rb
      obtain ⟨oi, e1, e2, _⟩ := st.1
      rw [List.mem_singleton.mp hb, e1] at e
      cases e
      rw [e2] at tc
      exact absurd tc (by decide)
    refine wpAny_bind (wpAny_tryCatch (wpAny_holding (wpAny_mono (K.turn (j + 1) v hv s' kp2) (fun kx s'' q => ?_) fun _ _ z => z.elim)))
    obtain ⟨h2, t2, rfl, kh, rx⟩ := q
    have at3 := kh _ _ at2
    have rb3 := Reads.keeps kh rb2
    have kp3 : Kp s0 { s' with heap := h2, toks := t2 } := kp2.then fun b o e _ => kh b o e
    have st3 := W.frame (j + 1 + 1) s' h2 s'.toks st' (Nat.le_refl _) fun b _ o e => kh b o e
    refine wpAny_bind (wpAny_tryCatch (wpAny_holding (wpAny_bind (rcGt_alike _ _ A.in1 { s' with heap := h2, toks := t2 } kx kb _ _ rx rb3 (K.al _ _ hlt hbj) (K.nn _ hlt) ?_ prog w _ _ ?_))))
    · have h1 := K.room (j + 1) hlt
      have h2 := Nat.min_le_left (key (j + 1)).depth (key (argBest (btK key) j)).depth
      show A.units + 1 + _ < _
      omega
    refine wpAny_bind (wpAny_holding (wpAny_truthy_bool ?_))
    refine wpAny_bind (wpAny_letGo (wpAny_pure ?_))
    cases hb : dataLt (key (argBest (btK key) j)) (key (j + 1)) with
    | true =>
      have ab : argBest (btK key) (j + 1) = j + 1 := by
        show (if btK key (j + 1) (argBest (btK key) j) = true then j + 1 else argBest (btK key) j) = j + 1
        rw [if_pos hb]
      simp only [if_true]
      refine wpAny_bind ?_
      refine wpAny_updateSeq at3 rfl (wpAny_bind (wpAny_letGo ?_))
      rw [hname]
      refine wpAny_pure ⟨plainId_quiet PySem.F.plain_max_loop _, ih (j + 1) _ v kx _ (by omega) hlt (kp3.then (tk := t2) fun b o e z => (Heap.get?_update_other _ _ (fun e2 => z (by rw [← e2]; exact hS))).trans e) ?_ (by rw [ab]; exact hv) ?_ (Heap.get?_update_self _ at3 rfl) fin⟩
      · refine W.frame (j + 1 + 1) _ _ t2 st3 (Nat.le_refl _) fun b hbf o e => (Heap.get?_update_other _ _ (fun e2 => ?_)).trans e
        rcases List.mem_cons.mp hbf with z | z
        · exact ne (e2.trans z)
        · exact nl' (e2.trans (List.mem_singleton.mp z))
      · rw [ab]
        refine reads_tup (fun b o tc e => (Heap.get?_update_other _ _ (fun e2 => ?_)).trans e) (K.nl _ hlt) rx
        rw [← e2, at3] at e
        cases e
        exact absurd (show Value.type "list" = Value.type "tuple" from tc) (by decide)
    | false =>
      have ab : argBest (btK key) (j + 1) = argBest (btK key) j := by
        show (if btK key (j + 1) (argBest (btK key) j) = true then j + 1 else argBest (btK key) j) = argBest (btK key) j
        have : ¬ btK key (j + 1) (argBest (btK key) j) = true := by
          show ¬ dataLt _ _ = true
          rw [hb]
          exact Bool.false_ne_true
        rw [if_neg this]
      simp only [Bool.false_eq_true, if_false]
      refine wpAny_bind (wpAny_letGo ?_)
      rw [hname]
      exact wpAny_pure ⟨plainId_quiet PySem.F.plain_max_loop _, ih (j + 1) _ vb kb c (by omega) hlt kp3 st3 (by rw [ab]; exact pb) (by rw [ab]; exact rb3) at3 fin⟩
variable {E : Value → Shared → Prop}
theorem max_keyed {s : Shared} {l fa : Addr} {vs : Array Value} {key : Nat → PyData} {Q : Value → Shared → Prop} (hh : A.handled = none) (hl : s.heap.IsList l vs) (hn : 0 < vs.size) (K : MaxK prog w A s fa vs key)
    (fin : ∀ v s', vs[argBest (btK key) (vs.size - 1)]? = some v → Kp s s' → Q v s') : wpAny (model prog w) A (call (.builtin "max") [.ref l] [(Str.ofString "key", .ref fa)]) Q E s := by
  have hname : (toString "max" ++ toString ".loop" : String) = "max.loop" := by decide
  refine PyProof.Rows.kmk_tree PySem.F.kind_max PySem.F.plain_max PySem.F.entry_max (PyProof.Rows.kmk_max_key _ _) ?_
  refine wpAny_bind (wpAny_of_eq (show Builtin.Builtins.bindParams "max" ["key", "default"] 0 ⟨[], [(Str.ofString "key", .ref fa)]⟩ = pure [some (.ref fa), none] from rfl) ?_)
  refine wpAny_bind (wpAny_pure ?_)
  refine wpAny_bind (iter_listW (A := A.in1) hh hl fun s₂ e W st hfp hw hk => ?_)
  refine wpAny_bind (wpAny_newObj_type ?_)
  have z2 : s₂.heap.objs.size = s.heap.objs.size + 1 := by rw [e]; exact Heap.size_push _ _
  have lt : l < s.heap.objs.size := by obtain ⟨_, e, _⟩ := hl; exact Heap.lt_size e
  rw [hname]
  have kp0 : Kp s { s₂ with heap := s₂.heap.push { cls := .type "list", data := .seq #[] 0 } } := ⟨_, s₂.toks, by rw [e], fun b o eb => Heap.get?_push_of_some _ (hk b o eb)⟩
  have hS : s.heap.get? s₂.heap.objs.size = none := Heap.get?_none_of_le (by omega)
  have hi : s.heap.get? s.heap.objs.size = none := Heap.get?_none_of_le (Nat.le_refl _)
  have ne : s₂.heap.objs.size ≠ s.heap.objs.size := by omega
  have nl' : s₂.heap.objs.size ≠ l := Nat.ne_of_gt (Nat.lt_trans lt (by rw [z2]; exact Nat.lt_succ_self _))
  have hw' : ∀ b ∈ [s.heap.objs.size], s.heap.get? b = none := fun b hb => by rw [List.mem_singleton.mp hb]; exact hi
  have Sw : s₂.heap.objs.size ∉ [s.heap.objs.size] := fun h => ne (List.mem_singleton.mp h)
  have at1 : (s₂.heap.push { cls := .type "list", data := .seq #[] 0 }).get? s₂.heap.objs.size = some { cls := .type "list", dict := none, data := .seq #[] 0, slots := #[] } := Heap.get?_push_size _ rfl
  have st1 := W.frame 0 s₂ (s₂.heap.push { cls := .type "list", data := .seq #[] 0 }) s₂.toks st (Nat.le_refl _) fun b _ o e => Heap.get?_push_of_some _ e
  clear z2 hk st hfp
  generalize s₂.heap.objs.size = S at *
  generalize hs3 : ({ s₂ with heap := s₂.heap.push { cls := .type "list", data := .seq #[] 0 } } : Shared) = s3 at *
  have at1 : s3.heap.get? S = some { cls := .type "list", dict := none, data := .seq #[] 0, slots := #[] } := by rw [← hs3]; exact at1
  have st1 : s3.heap.IsListIter s.heap.objs.size l 0 ∧ s3.heap.IsList l vs := by subst hs3; exact st1
  clear hs3
  refine wpAny_pure ⟨plainId_quiet PySem.F.plain_max_loop _, ?_⟩
  refine codeAny_builtin PySem.F.entry_max_loop ?_
  rw [Around.under_plainId PySem.F.plain_max_loop _]
  refine wpAny_bind (wpAny_seqItems at1 rfl ?_)
  refine wpAny_bind (wpAny_tryCatch (W.item 0 s3 _ _ hn st1 fun v s' hv st' hm => ?_))
  have at2 := hm.heap S _ Sw at1
  have kp2 := kp0.moved hm hw'
  refine wpAny_bind (wpAny_tryCatch (wpAny_holding (wpAny_mono (K.turn 0 v hv s' kp2) (fun kx s'' q => ?_) fun _ _ z => z.elim)))
  obtain ⟨h2, t2, rfl, kh, rx⟩ := q
  have at3 := kh _ _ at2
  have kp3 : Kp s { s' with heap := h2, toks := t2 } := kp2.then fun b o e _ => kh b o e
  have st3 := W.frame 1 s' h2 s'.toks st' (Nat.le_refl _) fun b _ o e => kh b o e
  refine wpAny_bind ?_
  refine wpAny_updateSeq at3 rfl ?_
  rw [hname]
  refine wpAny_pure ⟨plainId_quiet PySem.F.plain_max_loop _, max_loopK K W hS hi ne nl' _ _ 0 _ v kx _ rfl hn (kp3.then (tk := t2) fun b o e z => (Heap.get?_update_other _ _ (fun e2 => z (by rw [← e2]; exact hS))).trans e) ?_ hv ?_ (Heap.get?_update_self _ at3 rfl) fin⟩
  · refine W.frame 1 _ _ t2 st3 (Nat.le_refl _) fun b hbf o e => (Heap.get?_update_other _ _ (fun e2 => ?_)).trans e
    rcases List.mem_cons.mp hbf with z | z
    · exact ne (e2.trans z)
    · exact nl' (e2.trans (List.mem_singleton.mp z))
  · refine reads_tup (fun b o tc e => (Heap.get?_update_other _ _ (fun e2 => ?_)).trans e) (K.nl _ hn) rx
    rw [← e2, at3] at e
    cases e
    exact absurd (show Value.type "list" = Value.type "tuple" from tc) (by decide)
end
end Gn

set_option Elab.async false
set_option linter.all false
set_option maxRecDepth 100000
set_option maxHeartbeats 4000000
namespace Gn
open PySem PySem.Spec PyProof.Rows L2
variable [Tbls]

theorem env_in1 {P : Program} {w : World} {K : PySem.W.Frag} {mg : Str → Option Value} {base : Heap} {A : Around} {outer : List Env} {s : Shared} {H : Hp} (e : Env0 P w K mg base A outer s H) : Env0 P w K mg base A.in1 outer s H := ⟨e.frames, e.mod, e.bs, e.bsz, e.funs, e.frf, e.hok, e.bare⟩
/-- the item with the greatest key, the first such -/
def bestP (k : D × V → D) (b : D × V) (bs : List (D × V)) : D × V := bs.foldl (fun a y => if PySem.W.dataLt (k a) (k y) = true then y else a) b
theorem bestP_fst (f : D → D) (b : D × V) (bs : List (D × V)) : (bestP (fun b => f b.1) b bs).1 = (bs.map Prod.fst).foldl (fun a y => if PySem.W.dataLt (f a) (f y) = true then y else a) b.1 := by
  induction bs generalizing b with
  | nil => rfl
  | cons c bs ih =>
    show (bestP _ (if PySem.W.dataLt (f b.1) (f c.1) = true then c else b) bs).1 = _
    rw [ih]
    show _ = (bs.map Prod.fst).foldl _ (if PySem.W.dataLt (f b.1) (f c.1) = true then c.1 else b.1)
    by_cases z : PySem.W.dataLt (f b.1) (f c.1) = true
    · rw [if_pos z, if_pos z]
    · rw [if_neg z, if_neg z]
def MaxW (X : Cx) (q : Ky) (i : Nat) (σ : St) (x : V) (H1 : Hp) (Q : VK) : Prop := ∃ l b bs ρ, x = .ref l ∧ SqL X.K H1 l ((b :: bs).map Prod.snd) ∧ VRk X.K ρ σ H1 ∧ TabsH H1 ∧ (∀ c ∈ b :: bs, Rep X.K H1 c.1 c.2) ∧
  (∀ c ∈ b :: bs, ((q.ev (ρ.set i (some (.fz c.1)))).isSome && nl (kyD (fun d => q.ev (ρ.set i (some (.fz d)))) c.1)) = true) ∧ sdOk ((b :: bs).map (keyB fun d => q.ev (ρ.set i (some (.fz d))))) = true ∧
  ∀ H2, Ext H1 H2 → Q (bestP (keyB fun d => q.ev (ρ.set i (some (.fz d)))) b bs).2 H2
theorem vals_arr {vs : List V} {its : List Value} {k : Nat} {v : Value} (r : Vals vs its) (e : its.toArray[k]? = some v) : ∃ x, vs[k]? = some x ∧ RelV x v := by
  have e : its[k]? = some v := by rwa [List.getElem?_toArray] at e
  have lk : k < vs.length := by
    rw [r.length]
    exact (List.getElem?_eq_some_iff.mp e).1
  obtain ⟨u, eu, ru⟩ := r.get (List.getElem?_eq_getElem lk)
  rw [e] at eu
  cases eu
  exact ⟨_, List.getElem?_eq_getElem lk, ru⟩
theorem pe_maxk {X : Cx} {arg body : Expr} {ta : TE} {params : Arguments} {lsc : Scope} {a : Str} {N : List Str} {i : Nat} {q : Ky} {c P : Addr} {p1 lp kp pos : Pos} (hr : Room 3 X.A) (hC : X.calm = true) (B : LamX.TabB X.base X.mg c P) (ec : X.env.code = .ref c) (mem : (P, X.env.qual ++ "<lambda>") ∈ Tbls.L)
    (uniq : ∀ p ∈ Tbls.L, p.1 = P → p.2 = X.env.qual ++ "<lambda>") (hg : Gl X "max") (hm : X.mg "max" = none) (nod : X.N.Nodup) (hN : X.N = N) (ha : PE X arg ta) (pl : plainE arg = true) (L : Lam1 X.env.scope lsc a) (ia : X.N[i]? = some a) (hp : onePar params a = true) (hq : q.chk N lsc body = true) :
    PE X (.Call (.Name "max" p1) [arg] [⟨some "key", .Lambda params body lsc lp, kp⟩] pos) (fun σ H Q => ta σ H fun x H1 => MaxW X q i σ x H1 Q) := by
  obtain ⟨pr, pas⟩ := onePar_ok hp
  have dflt : defaultsOf params X.env = ([], []) := by
    rw [pr]
    rfl
  refine ⟨fun pins s σ H Q J h => ?_⟩
  refine wpAny_Call_Name_kw (ld_blt J hg hm rfl ?_ (by decide) (by decide))
  have pa : PA X [arg] (tCons ta tNil) := pa_cons ha pa_nil (star_of pl [] _)
  refine PyProof.Rows.callWith_kw (thn (pa.run pos pins s σ H (fun vs H1 => match vs with
    | [x] => MaxW X q i σ x H1 Q
    | _ => False) J h) fun us s1 ⟨vs, H1, J1, r1, q1⟩ => ?_) (by rw [star_of pl]; rfl) (by rw [star_of pl]; rfl) rfl rfl
  match vs, r1, q1 with
  | [x], r1, q1 =>
    obtain ⟨u, rfl, ru⟩ := vals1' r1
    obtain ⟨l, b, bs, ρ, rfl, sq, vr, tabs, reps, kok, sok, fin⟩ := q1
    cases ru
    show wpAny _ _ (evalAll [(do let v ← eval (.Lambda params body lsc lp) X.env; standAt pos; pure v)]) _ _ s1
    refine wpAny_evalAll_cons (wpAny_bind (lam_make3 J1 B ec mem uniq tabs dflt (L.caught J1.ok) fun f c' pm ctv H2 s2 J2 ext hf hco => wpAny_bind (wpAny_standAt (wpAny_pure ?_))))
    refine wpAny_evalAll_nil ?_
    show wpAny _ _ (call (.builtin "max") [.ref l] [(Str.ofString "key", .ref f)]) _ _ s2
    generalize hkf : (fun d => q.ev (ρ.set i (some (.fz d)))) = kf at *
    obtain ⟨al, so, _, dps⟩ := sd_parts sok
    have aa := sd_alike sok
    have un := hr.un
    obtain ⟨its, rv, hl, hz⟩ := J2.list (sqL_sub ext.sub sq)
    have lv : its.toArray.size = (b :: bs).length := by rw [List.size_toArray, ← rv.length, List.length_map]
    have inn : ∀ j, j < its.toArray.size → (b :: bs).getD j b ∈ b :: bs := fun j hj => by
      rw [List.getD_eq_getElem?_getD, List.getElem?_eq_getElem (by omega)]
      exact List.getElem_mem _
    have ink : ∀ j, j < its.toArray.size → keyB kf ((b :: bs).getD j b) ∈ (b :: bs).map (keyB kf) := fun j hj => List.mem_map_of_mem (inn j hj)
    refine max_keyed (key := fun j => keyB kf ((b :: bs).getD j b)) (J2.ok.hd hC) hl.isList (by rw [lv]; simp) ⟨fun j hj => (b2 (kok _ (inn j hj))).2, fun j j' hj hj' => aa.1 _ (ink j hj) _ (ink j' hj'), fun j hj => aa.2 _ (ink j hj), fun j hj => ?_, fun j v hv s3 kp3 => ?_⟩ fun v s3 hv kp3 => ?_
    · have := (dps _ (ink j hj)).1
      show X.A.units + 1 + _ < _
      omega
    · have hj := lt_of_get hv
      obtain ⟨h2, tk, rfl, kp2⟩ := kp3
      obtain ⟨xv, ex, hrv⟩ := vals_arr rv hv
      generalize hb : (b :: bs).getD j b = bj at *
      have hbm := inn j hj
      rw [hb] at hbm
      have exv : xv = bj.2 := by
        rw [List.getElem?_map] at ex
        rw [List.getD_eq_getElem?_getD] at hb
        cases z : (b :: bs)[j]? with
        | none => rw [z] at ex; cases ex
        | some y =>
          rw [z] at ex hb
          have hb : y = bj := hb
          rw [← hb]
          exact (Option.some.inj ex).symm
      subst exv
      have J3 : Inv X pins σ H2 { s2 with heap := h2, toks := tk } := J2.kept (t' := tk) kp2
      obtain ⟨ko, kn⟩ := b2 (kok bj hbm)
      have ko2 : (kf bj.1).isSome = true := by
        rw [← hkf]
        exact ko
      have ek : kf bj.1 = some (kyD kf bj.1) := by
        unfold kyD
        cases e : kf bj.1 with
        | none => rw [e] at ko2; cases ko2
        | some z => rfl
      have li : i < σ.length := by
        rw [J2.len]
        exact (List.getElem?_eq_some_iff.mp ia).1
      have rb : Rep X.K H2 bj.1 bj.2 := (reps bj hbm).sub ext.sub
      have vr2 : VRk X.K (ρ.set i (some (.fz bj.1))) (σ.set i (some bj.2)) H2 := (vr.sub ext.sub).set li rb
      have call := lam1_call (A := X.A.in1) (i := i) (xv := bj.2) (v := v) (Q := fun x H' => Rep X.K H' (kyD kf bj.1) x) (tb := tKy X.K q) (body := body) (params := params) (pos := pos) J3 L ia nod (env_in1 J3.env0) (hr.in1.mono (by omega)) (kp2 _ _ hf) hco pr pas
        (fun s0 => ky_sound (X := LamX.lamCx X X.A.in1 X.stack { s2 with heap := h2, toks := tk } H2 (fun _ _ _ => False) lsc f c') (N := N) (lsc := lsc) hN rfl q hq) hrv ⟨_, _, vr2, (show q.ev (ρ.set i (some (.fz bj.1))) = kf bj.1 by rw [← hkf]).trans ek, fun y H' _ r => r⟩
      refine wpAny_mono call (fun w s3 z => ?_) fun _ _ z => z
      obtain ⟨y, H4, h4, t4, e4, k4, hk4, ⟨Y, pins', σ', y1, y2, y3, JY⟩, ry, rk⟩ := z
      refine ⟨h4, t4, e4, k4, ?_⟩
      have nk := (dps (keyB kf bj) (List.mem_map_of_mem hbm)).2
      rw [← y1] at rk
      obtain ⟨as, rd⟩ := Dp.reads JY (kyD kf bj.1) y w (rk.dp nk) ry
      have e0 := reads_nl kn rd
      rw [e0, e4] at rd
      exact rd
    · obtain ⟨h2, tk, rfl, kp2⟩ := kp3
      obtain ⟨xv, ex, hrv⟩ := vals_arr rv hv
      have e1 : its.toArray.size - 1 = bs.length := by rw [lv]; simp
      obtain ⟨c1, c2⟩ := PySem.W.argBest_fold (fun a b => PySem.W.dataLt (keyB kf b) (keyB kf a)) b b bs bs.length (Nat.le_refl _)
      rw [List.take_length] at c2
      rw [e1] at ex
      have ex : ((b :: bs).map Prod.snd)[argBest (fun i j => PySem.W.dataLt (keyB kf ((b :: bs).getD j b)) (keyB kf ((b :: bs).getD i b))) bs.length]? = some xv := ex
      generalize argBest (fun i j => PySem.W.dataLt (keyB kf ((b :: bs).getD j b)) (keyB kf ((b :: bs).getD i b))) bs.length = k at *
      have : xv = (bestP (keyB kf) b bs).2 := by
        unfold bestP
        rw [← c2]
        rw [List.getElem?_map] at ex
        rw [List.getD_eq_getElem?_getD]
        cases z : (b :: bs)[k]? with
        | none => rw [z] at ex; cases ex
        | some y =>
          rw [z] at ex
          exact (Option.some.inj ex).symm
      subst this
      exact ⟨_, H2, J2.kept kp2, hrv, fin H2 ext⟩
  | [], r1, q1 => exact q1.elim
  | _ :: _ :: _, r1, q1 => exact q1.elim
section
variable {S : Sx} {G : Gam} {cl : Cl} {sc : Scope} {X : Cx} {W : WX}
theorem snd_maxk {p : P} {i : Nat} {q : Ky} {arg body : Expr} {params : Arguments} {lsc : Scope} {p1 lp kp pos : Pos} (g : GX S G cl sc X W) (hh : S.hot = false) (hl : S.lam = true) (b1 : S.bt.contains ("max" : Str) = true) (g1' : glB sc ("max" : Str) = true) (pl : plainE arg = true) (ha : PE X arg (tP X.K G cl W p)) (hb : lamB S.N sc i q params body lsc = true) :
    PE X (.Call (.Name ("max" : Str) p1) [arg] [⟨some ("key" : Str), .Lambda params body lsc lp, kp⟩] pos) (tP X.K G cl W (.maxk p i q)) := by
  obtain ⟨hr, c, P0, B, ec, mem, uniq⟩ := g.lm hl
  obtain ⟨a, ia, hp, L, hq⟩ := lamB_ok g hb
  refine PE.mono (pe_maxk hr (g.calm hh) B ec mem uniq (gl_of g.sc g1') (g.bt _ (mem_of b1)) g.nd g.N ha pl L ia hp hq) fun σ H Q ⟨ρ, hid, ho, vr, h⟩ => ?_
  refine ⟨ρ, hid, ho, vr, POut.imp m1 (POut.bind1 g1 h) fun v H1 ⟨t, fp, s, fr, o, h2⟩ => ?_⟩
  have r : Rep X.K (hide H1 hid) t.d v := o.seen ho s fr
  cases e : t.d with
  | list ds =>
    rw [e] at h2 r
    cases r with
    | @lst l vs _ sq rs =>
      have h2 : POut X.K cl σ H1 hid W (O1 X.K hid) (maxKD (fun d => q.ev (ρ.set i (some (.fz d)))) (.list ds)) Q := h2
      have lz := rs.length
      cases ds with
      | nil => exact h2.elim
      | cons d ds =>
        have h2 : POut X.K cl σ H1 hid W (O1 X.K hid) (maxKC (fun d => q.ev (ρ.set i (some (.fz d)))) d ds) Q := h2
        unfold maxKC at h2
        split at h2
        · rename_i c
          obtain ⟨c1, c2⟩ := c
          have h : Out X.K H1 hid (.fz (ds.foldl (fun a y => if PySem.W.dataLt (kyD (fun d => q.ev (ρ.set i (some (.fz d)))) a) (kyD (fun d => q.ev (ρ.set i (some (.fz d)))) y) = true then y else a) d)) Q := h2
          cases rs with
          | @cons _ _ v0 vs0 r0 rs0 =>
            have mf : (ds.zip vs0).map Prod.fst = ds := List.map_fst_zip (by have := rs0.length; omega)
            have ms : (ds.zip vs0).map Prod.snd = vs0 := List.map_snd_zip (by have := rs0.length; omega)
            have reps : ∀ b ∈ (d, v0) :: ds.zip vs0, Rep X.K (hide H1 hid) b.1 b.2 := fun b hb => by
              rcases List.mem_cons.mp hb with z | z
              · rw [z]; exact r0
              · obtain ⟨j, hj⟩ := List.mem_iff_getElem?.mp z
                rw [List.getElem?_zip_eq_some] at hj
                obtain ⟨w, e1, r1⟩ := rs0.get hj.1
                rw [hj.2] at e1
                cases e1
                exact r1
            have em : ((d, v0) :: ds.zip vs0).map (keyB fun d => q.ev (ρ.set i (some (.fz d)))) = (d :: ds).map (kyD fun d => q.ev (ρ.set i (some (.fz d)))) := by
              have : ((d, v0) :: ds.zip vs0).map (keyB fun d => q.ev (ρ.set i (some (.fz d)))) = (((d, v0) :: ds.zip vs0).map Prod.fst).map (kyD fun d => q.ev (ρ.set i (some (.fz d)))) := by
                rw [List.map_map]
                rfl
              rw [this, List.map_cons, mf]
            refine ⟨l, (d, v0), ds.zip vs0, ρ, rfl, ?_, fun j t e => ?_, (vr.grow ho s).x.tb, fun b hb => (reps b hb).sub (hide_sub _ _), fun b hb => ?_, by rw [em]; exact c2, fun H2 ext => ?_⟩
            · rw [List.map_cons, ms]
              exact sqL_sub (hide_sub _ _) sq
            · obtain ⟨v, a, b⟩ := (vr.grow ho s).get j t e
              exact ⟨v, a, b.sub (hide_sub _ _)⟩
            · refine List.all_eq_true.mp c1 b.1 ?_
              have : b.1 ∈ ((d, v0) :: ds.zip vs0).map Prod.fst := List.mem_map_of_mem hb
              rwa [List.map_cons, mf] at this
            · have bf := bestP_fst (kyD fun d => q.ev (ρ.set i (some (.fz d)))) (d, v0) (ds.zip vs0)
              rw [mf] at bf
              rw [← bf] at h
              have inb : ∀ (bs : List (D × V)) (b : D × V), bestP (keyB fun d => q.ev (ρ.set i (some (.fz d)))) b bs ∈ b :: bs := fun bs => by
                induction bs with
                | nil => intro b; exact List.mem_cons_self
                | cons c bs ih =>
                  intro b
                  show bestP _ (if _ then c else b) bs ∈ _
                  split
                  · exact List.mem_cons_of_mem _ (ih c)
                  · rcases List.mem_cons.mp (ih b) with z | z
                    · rw [z]; exact List.mem_cons_self
                    · exact List.mem_cons_of_mem _ (List.mem_cons_of_mem _ z)
              exact Out.fz (h.grow ext) ((reps _ (inb _ _)).sub (hide_grow (ho.grow s) ext))
        · exact h2.elim
  | _ => rw [e] at h2; exact h2.elim
end
end Gn

set_option Elab.async false
set_option linter.all false
set_option maxRecDepth 100000
set_option maxHeartbeats 4000000
namespace Gn
open PySem PySem.Spec PyProof.Rows L2
variable [Tbls]

section
variable {S : Sx} {G : Gam} {cl : Cl} {sc : Scope} {X : Cx} {W : WX}
/-! ### calls -/
theorem owns_frozen {K : PySem.W.Frag} {H : Hp} {hid : List Addr} : ∀ {ts : List T} {vs : List V}, Reps K (hide H hid) (T.ds ts) vs → Owns K H hid (ts.map fun t => .fz t.d) vs []
  | [], _, .nil => .nil
  | t :: ts, _, .cons h r => .cons (.fz h) (owns_frozen r) (fun _ h => nomatch h)
theorem ioB_frozen : ∀ (io : List Nat) (i : Nat) (ts : List T), ioB io i (ts.map fun t => .fz t.d) = true
  | _, _, [] => rfl
  | io, i, t :: ts => by
    show ((io.contains i || true) && ioB io (i + 1) _) = true
    rw [ioB_frozen io (i + 1) ts, Bool.or_true]
    rfl
theorem call_post {m : List T → R (T × List T)} {n : Nat} {ps : List P} {σ : St} {H : Hp} {Q : VK} (len : ∀ ts, m ts ≠ .no → ts.length = n)
    (h : tR G X.K cl W (fun ρ => do
      let ts ← P.evs G ps ρ
      let r ← m (ts.map fun t => .fz t.d)
      return r.1) σ H Q) : tPs X.K G cl W ps σ H fun vs H1 => spT X.K cl n [] m vs H1 Q (WE W σ) := by
  obtain ⟨ρ, hid, ho, vr, h⟩ := h
  refine ⟨ρ, hid, ho, vr, ?_⟩
  dsimp only at h
  cases e : P.evs G ps ρ with
  | no => rw [e] at h; exact h.elim
  | ex c fs => rw [e] at h; exact h
  | ok ts =>
    rw [e] at h
    have h : POut X.K cl σ H hid W (O1 X.K hid) (do
      let r ← m (ts.map fun t => .fz t.d)
      return r.1) Q := h
    intro vs H1 fp s fr o
    have hne : m (ts.map fun t => .fz t.d) ≠ .no := fun z => by
      rw [z] at h
      exact h
    have hl := len _ hne
    rw [List.length_map] at hl
    refine ⟨by rw [o.length]; exact hl, s.tabs vr.x.tb, ts.map fun t => .fz t.d, [], hid, ho.grow s, (fun _ z => nomatch z), owns_frozen (o.seen ho s fr), ioB_frozen _ _ _, ?_⟩
    cases em : m (ts.map fun t => .fz t.d) with
    | no => exact absurd em hne
    | ex c fs =>
      rw [em] at h
      intro H' d k x
      exact (show ∀ H' d, Ext H H' → ExR X.K cl H' hid c fs d → W (.ref (cl.ca c)) (some d) σ H' from h) H' d (s.trans k.ext) x
    | ok r =>
      obtain ⟨t, outs⟩ := r
      rw [em] at h
      have h : Out X.K H hid t Q := h
      intro v H' f2 fo k1 k2 k3 k4 k5
      cases k5
      refine h v H' f2 (s.trans k1.ext) (fun a ha => ?_) (by simpa using k4)
      rcases k2 a (List.mem_append_left _ ha) with z | z
      · exact none_sub s z
      · cases z
theorem pe_callS0 {CX : CXT} {k : Nat} {f : Addr} {fd : FuncData} {ps : List Str} {sp : Sp} {E : St → XK} {x : Str} {p pos : Pos} (F : FnOk X.prog X.w X.K X.mg X.base CX k f fd ps sp) (hr : Room k X.A) (hg : Gl X x) (hm : X.mg x = some (.ref f)) (hk : PySem.W.keepIn X.K (.ref f) = true) (hb : Binds X.K fd ps [])
    (hx : ∀ σ, PassesAt CX X σ (E σ)) (hdb : (x == ("__debug__" : Str)) = false) : PE X (.Call (.Name x p) [] [] pos) (tCallS sp E tNil) := by
  refine ⟨fun pins s σ H Q I h => ?_⟩
  refine wpAny_Call_Name_kw (ld_glob I hg hm ?_ hdb)
  exact PySem.W.callWith_K0 I.kIn hk (run_fnS (us := []) F hr hb (hx σ) I .nil h)
theorem snd_call {k : Nat} {ps : List P} {es : List Expr} {x : Str} {p pos : Pos} (g : GX S G cl sc X W) (hh : S.hot = false) (e1 : S.fnn[k]? = some x) (e2 : S.fio[k]? = some []) (hg : glB sc x = true) (hn : okName x = true) (hl : es.length = ps.length) (hp : ∀ e ∈ es, plainE e = true)
    (ha : PA X es (tPs X.K G cl W ps)) : PE X (.Call (.Name x p) es [] pos) (tP X.K G cl W (.call k ps)) := by
  obtain ⟨f, fd, qs, n, hm, hk, F, hr, hb, len⟩ := g.fn hh k x [] e1 e2
  cases es with
  | nil =>
    cases ps with
    | cons _ _ => simp at hl
    | nil =>
      refine PE.mono (pe_callS0 (E := WE W) F hr (gl_of g.sc hg) hm hk hb (fun σ => passAt g.tk σ) (okN hn).1) fun σ H Q h => ?_
      obtain ⟨ρ, hid, ho, vr, q⟩ := call_post len h
      exact (show Os X.K hid H [] _ from q) [] H [] (Ext.refl H) (fun _ z => nomatch z) .nil
  | cons e es =>
    exact PE.mono (pe_callS (E := WE W) F hr (gl_of g.sc hg) hm hk hb (fun σ => passAt g.tk σ) ha (okN hn).1 (star_of (hp e (by simp)) es _) (star_none fun e he => hp e (by simp [he]))) fun σ H Q h => call_post len h

/-! ### builtins -/
theorem args_post {ps : List P} {σ : St} {H : Hp} {Q : VK} {f : List T → R T} {Z : List V → Hp → Prop} (h : tR G X.K cl W (fun ρ => do
      let ts ← P.evs G ps ρ
      f ts) σ H Q) (k : ∀ hid ts vs H1, HidOk H1 hid → Reps X.K (hide H1 hid) (T.ds ts) vs → POut X.K cl σ H1 hid W (O1 X.K hid) (f ts) Q → Z vs H1) : tPs X.K G cl W ps σ H Z := by
  obtain ⟨ρ, hid, ho, vr, h⟩ := h
  refine ⟨ρ, hid, ho, vr, POut.imp ms (POut.binds g1 h) fun vs H1 ⟨ts, fp, s, fr, o, h2⟩ => ?_⟩
  exact k hid ts vs H1 (ho.grow s) (o.seen ho s fr) h2
theorem snd_bi {b : BI} {ps : List P} {es : List Expr} {kws : List Keyword} {p pos : Pos} (g : GX S G cl sc X W) (hgl : glB sc b.name = true) (hbt : S.bt.contains b.name = true) (hkw : kwB b kws = true) (hne : es.isEmpty = false) (hp : ∀ e ∈ es, plainE e = true)
    (ha : PA X es (tPs X.K G cl W ps)) : PE X (.Call (.Name b.name p) es kws pos) (tP X.K G cl W (.bi b ps)) := by
  have hg := gl_of g.sc hgl
  have hm := g.bt _ (mem_of hbt)
  have hv := b.boot
  have hn : b.name ≠ ("__name__" : Str) := by cases b <;> decide +kernel
  have hd : (b.name == ("__debug__" : Str)) = false := by cases b <;> decide +kernel
  have hc : G.calm = true → X.calm = true := fun z => g.calm (g.cm z)
  cases es with
  | nil => cases hne
  | cons e es =>
    have hst := star_of (hp e (by simp)) es X.env
    have hsn : (backTo pos (starEach es X.env)).any (·.1) = false := star_none fun e he => hp e (by simp [he])
    have post : ∀ σ H Q, tP X.K G cl W (.bi b ps) σ H Q → tPs X.K G cl W (ps) σ H fun vs H1 => rBI X.K G.calm b vs H1 Q := fun σ H Q h => args_post (f := fun ts => biD G.calm b (T.ds ts)) h fun hid ts vs H1 ho r q => ⟨hid, T.ds ts, ho, r, q.rout (nx_biD _ _ _)⟩
    by_cases hk : kws = []
    · subst hk
      have run : b.kw = [] → CallR X b.val (rBI X.K G.calm b) := fun z pins s σ H vs us Q I r h => by
        have := cr_bi (by have := g.hu; omega) (calm := G.calm) hc b I r h
        rw [z] at this
        exact this
      cases b with
      | sortedR => cases hkw
      | int => exact PE.mono (pe_callTy (run rfl) hg hm hv ha hn hd hst hsn) post
      | str => exact PE.mono (pe_callTy (run rfl) hg hm hv ha hn hd hst hsn) post
      | list => exact PE.mono (pe_callTy (run rfl) hg hm hv ha hn hd hst hsn) post
      | tuple => exact PE.mono (pe_callTy (run rfl) hg hm hv ha hn hd hst hsn) post
      | len => exact PE.mono (pe_callB (run rfl) hg hm hv ha hn hd hst hsn) post
      | abs => exact PE.mono (pe_callB (run rfl) hg hm hv ha hn hd hst hsn) post
      | sorted => exact PE.mono (pe_callB (run rfl) hg hm hv ha hn hd hst hsn) post
      | maxD => exact PE.mono (pe_callB (run rfl) hg hm hv ha hn hd hst hsn) post
      | sortedD => exact PE.mono (pe_callB (run rfl) hg hm hv ha hn hd hst hsn) post
      | sum => exact PE.mono (pe_callB (run rfl) hg hm hv ha hn hd hst hsn) post
      | all => exact PE.mono (pe_callB (run rfl) hg hm hv ha hn hd hst hsn) post
      | any => exact PE.mono (pe_callB (run rfl) hg hm hv ha hn hd hst hsn) post
      | max2 => exact PE.mono (pe_callB (run rfl) hg hm hv ha hn hd hst hsn) post
      | min2 => exact PE.mono (pe_callB (run rfl) hg hm hv ha hn hd hst hsn) post
      | max1 => exact PE.mono (pe_callB (run rfl) hg hm hv ha hn hd hst hsn) post
      | min1 => exact PE.mono (pe_callB (run rfl) hg hm hv ha hn hd hst hsn) post
    · -- sorted(x, reverse=True)
      have hb : b = .sortedR ∧ ∃ k q r, kws = [⟨some ("reverse" : Str), .Constant (.bool true) k q, r⟩] := by
        unfold kwB at hkw
        split at hkw
        · rename_i x k q r
          have e : x = ("reverse" : Str) := of_decide_eq_true hkw
          subst e
          exact ⟨rfl, _, _, _, rfl⟩
        · cases hkw
        · exact absurd rfl hk
        · cases hkw
      obtain ⟨rfl, k, q, r, rfl⟩ := hb
      have run : CallRK X (.builtin "sorted") [Str.ofString "reverse"] (fun vs zs H Q => zs = [.bl true] ∧ rBI X.K G.calm .sortedR vs H Q) := fun pins s σ H vs zs us ws Q I r rz h => by
        obtain ⟨rfl, h⟩ := h
        obtain ⟨w, rfl, e⟩ := vals1' rz
        cases (show w = Value.bool true from e)
        exact cr_bi (by have := g.hu; omega) (calm := G.calm) hc .sortedR I r h
      have hk1 : PK X [⟨some ("reverse" : Str), .Constant (.bool true) k q, r⟩] (tCons (tC (.bl true)) tNil) := pk_cons pe_bl pk_nil
      refine PE.mono (pe_callBK run hg hm hv ha hk1 hn hd ?_ ?_ rfl rfl rfl) fun σ H Q h => ?_
      · rw [hst]
        rfl
      · rw [hst]
        show (false || (backTo pos (starEach es X.env)).any (·.1)) = false
        rw [hsn]
        rfl
      · obtain ⟨ρ, hid, ho, vr, z⟩ := post σ H Q h
        exact ⟨ρ, hid, ho, vr, POut.imp ms z fun vs H1 z2 => ⟨rfl, z2⟩⟩

/-! ### isinstance -/
theorem tyx_of {K : PySem.W.Frag} {H : Hp} {d : D} {v : V} (r : Rep K H d v) : ∃ t, TyX K H v (.type t) ∧ ∀ ty : Ty, kitB t ty.id = some (isTy ty d) := by
  cases r with
  | non => exact ⟨"NoneType", .base .non, fun ty => (show _ = some (isTy ty .none) from by cases ty <;> decide +kernel).trans (by cases ty <;> rfl)⟩
  | bl b => exact ⟨"bool", .base (.bl b), fun ty => (show _ = some (isTy ty (.bool true)) from by cases ty <;> decide +kernel).trans (by cases ty <;> rfl)⟩
  | int i => exact ⟨"int", .base (.int i), fun ty => (show _ = some (isTy ty (.int 0)) from by cases ty <;> decide +kernel).trans (by cases ty <;> rfl)⟩
  | str x _ => exact ⟨"str", .base (.str x), fun ty => (show _ = some (isTy ty (.str ⟨#[]⟩)) from by cases ty <;> decide +kernel).trans (by cases ty <;> rfl)⟩
  | dct h => exact ⟨"dict", .base (.dK h), fun ty => (show _ = some (isTy ty (.dict [])) from by cases ty <;> decide +kernel).trans (by cases ty <;> rfl)⟩
  | lst h _ =>
    refine ⟨"list", ?_, fun ty => (show _ = some (isTy ty (.list [])) from by cases ty <;> decide +kernel).trans (by cases ty <;> rfl)⟩
    rcases h with (h | ⟨o, h⟩) | ⟨o, its, n, h, c, _⟩
    · exact .base (.lst h)
    · exact .base (.frz h)
    · exact .kList h c
  | tup h _ =>
    refine ⟨"tuple", ?_, fun ty => (show _ = some (isTy ty (.tuple [])) from by cases ty <;> decide +kernel).trans (by cases ty <;> rfl)⟩
    rcases h with (h | ⟨o, h⟩) | ⟨o, its, n, h, c, _⟩
    · exact .base (.tup h)
    · exact .fTuple h
    · exact .kTuple h c
theorem snd_isi {q : P} {ty : Ty} {a : Expr} {p p2 pos : Pos} (g : GX S G cl sc X W) (h1 : S.bt.contains ("isinstance" : Str) = true) (h2 : glB sc ("isinstance" : Str) = true) (h3 : S.bt.contains ty.name = true) (h4 : glB sc ty.name = true) (hp : plainE a = true)
    (ha : PE X a (tP X.K G cl W q)) : PE X (.Call (.Name ("isinstance" : Str) p) [a, .Name ty.name p2] [] pos) (tP X.K G cl W (.isi q ty)) := by
  have hn : ("isinstance" : Str) ≠ ("__name__" : Str) := by decide +kernel
  have hd : (("isinstance" : Str) == ("__debug__" : Str)) = false := by decide +kernel
  have hv : bootBuiltins ("isinstance" : Str) = some (.builtin "isinstance") := by decide +kernel
  have hb : PE X (.Name ty.name p2) (tC (.ty ty.id)) := pe_bltn (gl_of g.sc h4) (g.bt _ (mem_of h3)) ty.boot rfl ty.okN.2 ty.okN.1
  have pa : PA X [a, .Name ty.name p2] (tCons (tP X.K G cl W q) (tCons (tC (.ty ty.id)) tNil)) := pa_cons ha (pa_cons hb pa_nil rfl) (star_of hp _ _)
  refine PE.mono (pe_callB call_isi (gl_of g.sc h2) (g.bt _ (mem_of h1)) hv pa hn hd (star_of hp _ _) rfl) fun σ H Q h => one (O := fun t => .ok (.fz (.bool (isTy ty t.d)))) h fun ρ hid fp t x H1 ho vr nf o q => ?_
  have r := (o.shown ho nf).sub (hide_sub _ _)
  obtain ⟨tn, t1, t2⟩ := tyx_of r
  exact ⟨x, .ty ty.id, .type tn, .type ty.id, isTy ty t.d, rfl, .ty _, t1, kit_ty (t2 ty), Out.fz (out_of q) (.bl _)⟩
/-! ### the handled exception -/
theorem lookup_of_mem {β : Type} : ∀ {l : List (Str × β)} {k : Str} {v : β}, (l.map Prod.fst).Nodup → (k, v) ∈ l → l.lookup k = some v
  | [], _, _, _, h => by cases h
  | (a, b) :: r, k, v, nd, h => by
    obtain ⟨n1, n2⟩ := List.nodup_cons.mp (show (a :: r.map Prod.fst).Nodup from nd)
    rcases List.mem_cons.mp h with e | e
    · cases e
      simp
    · have ne : (k == a) = false := by
        rw [beq_eq_false_iff_ne]
        rintro rfl
        exact n1 (List.mem_map_of_mem (f := Prod.fst) e)
      rw [List.lookup_cons, ne]
      exact lookup_of_mem n2 e
theorem lookup_zip_rev {ns : List Str} {vs : List V} {n : Nat} {f : Str} {v : V} (nd : ns.Nodup) (h1 : ns[n]? = some f) (h2 : vs[n]? = some v) : (ns.zip vs).reverse.lookup f = some v := by
  refine lookup_of_mem ?_ ?_
  · rw [List.map_reverse]
    refine List.pairwise_reverse.mpr (List.Pairwise.imp (fun h => Ne.symm h) ?_)
    have : ∀ (l : List Str) (m : List V), ((l.zip m).map Prod.fst).Sublist l := by
      intro l
      induction l with
      | nil => intro m; simp
      | cons a l ih =>
        intro m
        cases m with
        | nil => simp
        | cons b m => simpa using ih m
    exact nd.sublist (this ns vs)
  · rw [List.mem_reverse]
    refine List.mem_of_getElem? (i := n) ?_
    rw [List.getElem?_zip_eq_some]
    exact ⟨h1, h2⟩
theorem hs_of {x : Str} {pos : Pos} {c : Nat} (g : GX S G cl sc X W) (hx : HxG S G cl X c) (h : hsB S sc x = true) : PE X (.Name x pos) (tVar cl.xs) := by
  obtain ⟨h1, h2⟩ := b2 h
  obtain ⟨h1, h3⟩ := b2 h1
  rw [hx.hs] at h1
  obtain ⟨k1, k2, _⟩ := okN h2
  exact pe_var (by rw [g.N]; exact of_decide_eq_true h1) (vis_of g.sc h3) k1 k2
theorem snd_xfl {x f : Str} {xp pos : Pos} (g : GX S G cl sc X W) (h : hsB S sc x = true) : PE X (.Attribute (.Name x xp) f pos) (tP X.K G cl W (.xfl f)) := by
  refine ⟨fun pins s σ H Q I ⟨ρ, hid, ho, vr, q⟩ => ?_⟩
  have q : POut X.K cl σ H hid W (O1 X.K hid) (match G.hx with
    | some (c, fs) => match G.xf c f with
      | some n => match fs[n]? with
        | some d => .ok (.fz d)
        | none => .no
      | none => .no
    | none => .no) Q := q
  cases eh : G.hx with
  | none => rw [eh] at q; exact q.elim
  | some cf =>
    obtain ⟨c, fs⟩ := cf
    rw [eh] at q
    have xx := g.hx c fs eh
    obtain ⟨es, vs, ed, rr⟩ := vr.x.hx c fs eh
    dsimp only at q
    cases en : G.xf c f with
    | none => rw [en] at q; exact q.elim
    | some n =>
      rw [en] at q
      dsimp only at q
      cases ef : fs[n]? with
      | none => rw [ef] at q; exact q.elim
      | some d =>
        rw [ef] at q
        obtain ⟨v, ev, rv⟩ := rr.get ef
        obtain ⟨c1, c2, c3⟩ := xx.cls.xf f n en
        have lk := lookup_zip_rev c2 c1 ev
        obtain ⟨oe, mem, hz, vs', hd⟩ := xx.obj
        refine attr_of rfl (thn ((hs_of g xx h).run pins s σ H (fun y H1 => y = .ref cl.xa ∧ H1 = H) I ⟨_, es, rfl, rfl⟩) fun u s1 hh => ?_)
        obtain ⟨y, H1, I1, ru, rfl, rfl⟩ := hh
        obtain rfl : u = Value.ref cl.xa := ru
        obtain ⟨ha, _⟩ := I1.pin (cl.xa, oe) (List.mem_append_left _ mem)
        have ho1 : ObjOk X.prog X.w H1 s1.heap cl.xd (.xd ((cl.cf c).zip vs).reverse) := I1.hok cl.xd _ ed
        obtain ⟨mA, hns, hr⟩ := ho1
        obtain ⟨od, hod, hl⟩ := lookIn_ns hns
        obtain ⟨w, hw, rw'⟩ := RelO.some_of (v := v) (o := mA f) (by rw [← lk]; exact hr f)
        have J : PySem.W.InstAt s1.heap cl.xa oe (cl.ca c) (some od) := ⟨ha, hz.1, by unfold PySem.W.notCls; rw [hd] <;> rfl, by rw [hz.2]; exact hod⟩
        exact HandSPX.exc_get I1.kIn J xx.cls.xfc.ga xx.cls.xfc.gg xx.cls.xfc.exC (PySem.W.findObj_own xx.cls.xfc.hdC c3 rfl (by rw [hl, hw])) (handed_of rw') ⟨v, H1, I1.tok _, rw', Out.fz q rv⟩
theorem tC_pe {x : Str} {pos : Pos} {c : Value} {v : V} (hg : Gl X x) (hd : (x == ("__debug__" : Str)) = false) (h : CNm X x c) (hv : ∀ u, RelV v u ↔ u = c) : PE X (.Name x pos) (tC v) := by
  rcases h with h | ⟨h1, h2, h3⟩
  · exact pe_glob hg h ((hv c).mpr rfl) hd
  · refine ⟨fun pins s σ H Q I q => ld_blt I hg h1 h2 ⟨v, H, I, (hv c).mpr rfl, q⟩ h3 hd⟩
theorem snd_xis {x y : Str} {k : Nat} {p1 p2 p3 pos : Pos} (g : GX S G cl sc X W) (h1 : S.bt.contains ("isinstance" : Str) = true) (h2 : glB sc ("isinstance" : Str) = true) (h : hsB S sc x = true) (hy : S.cn[k]? = some y) (h3 : glB sc y = true) (h4 : okName y = true) :
    PE X (.Call (.Name ("isinstance" : Str) p1) [.Name x p2, .Name y p3] [] pos) (tP X.K G cl W (.xis k)) := by
  refine ⟨fun pins s σ H Q I ⟨ρ, hid, ho, vr, q⟩ => ?_⟩
  have q : POut X.K cl σ H hid W (O1 X.K hid) (match G.hx with
    | some (c, _) => .ok (.fz (.bool (G.isub c k)))
    | none => .no) Q := q
  cases eh : G.hx with
  | none => rw [eh] at q; exact q.elim
  | some cf =>
    obtain ⟨c, fs⟩ := cf
    rw [eh] at q
    have xx := g.hx c fs eh
    obtain ⟨es, vs, ed, rr⟩ := vr.x.hx c fs eh
    obtain ⟨oe, mem, hz, vs', hd⟩ := xx.obj
    obtain ⟨cv, v, n1, n2, n3, _⟩ := xx.cls.sub k y hy
    have run : CallR X (.builtin "isinstance") (fun zs H1 Q1 => zs = [.ref cl.xa, v] ∧ H1 = H ∧ Q1 (.bl (G.isub c k)) H) := by
      intro pins2 s2 σ2 H1 zs us Q1 I2 r hz2
      obtain ⟨rfl, rfl, q1⟩ := hz2
      obtain ⟨u1, u2, rfl, r1, r2⟩ := vals2' r
      obtain rfl : u1 = Value.ref cl.xa := r1
      have e2 := (n2 u2).mp r2
      subst e2
      obtain ⟨ha, _⟩ := I2.pin (cl.xa, oe) (List.mem_append_left _ mem)
      have ho1 : ObjOk X.prog X.w H1 s2.heap cl.xd (.xd ((cl.cf c).zip vs).reverse) := I2.hok cl.xd _ ed
      obtain ⟨mA, hns, hr⟩ := ho1
      obtain ⟨od, hod, hl⟩ := lookIn_ns hns
      have J : PySem.W.InstAt s2.heap cl.xa oe (cl.ca c) (some od) := ⟨ha, hz.1, by unfold PySem.W.notCls; rw [hd] <;> rfl, by rw [hz.2]; exact hod⟩
      have C := xx.cls.isc
      obtain ⟨cd, hcd, _⟩ := PySem.W.any_some C.hd
      exact PySem.W.kia_one (PySem.W.kitx_exc (by rw [hcd]; rfl) C.hg C.hk C.hs C.ha C.hn C.ht C.hm) I2.kIn J n3 (fun z => nomatch z) fun tk => ⟨.bl _, H1, I2.tok tk, rfl, q1⟩
    have pa : PA X [.Name x p2, .Name y p3] (tCons (tVar cl.xs) (tCons (tC v) tNil)) := pa_cons (hs_of g xx h) (pa_cons (tC_pe (gl_of g.sc h3) (okN h4).1 n1 n2) pa_nil rfl) rfl
    exact (pe_callB run (gl_of g.sc h2) (g.bt _ (mem_of h1)) (by decide +kernel) pa (by decide +kernel) (by decide +kernel) rfl rfl).run pins s σ H Q I ⟨_, es, rfl, rfl, Out.fz q (.bl _)⟩
theorem snd_xcall {x f : Str} {k : Nat} {p1 p2 pos : Pos} (g : GX S G cl sc X W) (hk : S.xnn[k]? = some f) (h2 : glB sc f = true) (h4 : okName f = true) (h : hsB S sc x = true) :
    PE X (.Call (.Name f p1) [.Name x p2] [] pos) (tP X.K G cl W (.xcall k)) := by
  refine ⟨fun pins s σ H Q I ⟨ρ, hid, ho, vr, q⟩ => ?_⟩
  have q : POut X.K cl σ H hid W (O1 X.K hid) (match G.hx with
    | some (c, fs) => (G.fx k c fs).shut
    | none => .no) Q := q
  cases eh : G.hx with
  | none => rw [eh] at q; exact q.elim
  | some cf =>
    obtain ⟨c, fs⟩ := cf
    rw [eh] at q
    dsimp only at q
    have xx := g.hx c fs eh
    obtain ⟨es, xr⟩ := vr.x.hx c fs eh
    obtain ⟨oe, mem, hz, hd⟩ := xx.obj
    obtain ⟨fa, fd, ps, n, m1, m2, F, hr, hb⟩ := xx.fx k f hk
    refine wpAny_Call_Name_kw (ld_glob I (gl_of g.sc h2) m1 ?_ (okN h4).1)
    have pa : PA X [.Name x p2] (tCons (tVar cl.xs) tNil) := pa_cons (hs_of g xx h) pa_nil rfl
    refine PySem.W.callWith_K (h₀ := X.base) I.ok.mod.kin m2 (thn (pa.run pos pins s σ H (fun vs H1 => vs = [.ref cl.xa] ∧ H1 = H) I ⟨_, es, rfl, rfl⟩) fun us s1 ⟨vs, H1, I1, r, e1, e2⟩ => ⟨I1.kIn, ?_⟩) rfl rfl
    subst e1 e2
    obtain ⟨u, rfl, ru⟩ := vals1' r
    obtain rfl : u = Value.ref cl.xa := ru
    have P1 := I1.pin (cl.xa, oe) (List.mem_append_left _ mem)
    have hpin : L2H.PinOk X.stack H1 s1 (cl.xa, oe) := ⟨P1.1, P1.2.1, fun hm => (List.mem_cons.mp (I1.stkSub cl.xa hm)).elim P1.2.2.1 P1.2.2.2.1, P1.2.2.2.2⟩
    have b := hb s1 [.ref cl.xa] I1.kIn (by rw [List.append_nil, F.one]; rfl)
    rw [List.append_nil] at b
    have q' : POut X.K cl [] H1 hid (fun _ _ _ _ => False) (O1 X.K hid) (G.fx k c fs) Q := by
      cases e : G.fx k c fs with
      | ok t => rw [e] at q; exact q
      | ex _ _ => rw [e] at q; exact q.elim
      | no => rw [e] at q; exact q.elim
    refine wpAny_call (codeAny_mono (F.run X.A X.stack s1 H1 ⟨[.ref cl.xa], []⟩ Q (cl.xa, oe) c fs cl.xd hid xx.ck hr hpin I1.env0 b hz hd vr.x.tb ho xr q') fun r s' hq => ?_)
    cases r with
    | error e =>
      obtain ⟨_, _, _, _, _, _, _, _, _, _, _, _, z⟩ := hq
      exact z.elim
    | ok fl =>
      cases fl with
      | ret u => exact I1.after hq
      | next => exact False.elim hq
      | brk => exact False.elim hq
      | cont => exact False.elim hq
/-! ### more forms -/
theorem lastM_plain {a b : CmpOp} {x y : Expr} (h : plainE y = true) : lastMarks [a, b] [x, y] = false := by
  show behindInMarks b y = false
  cases y <;> first | rfl | cases h
theorem snd_cmp3 {o o' : CmpO} {p q r : P} {a b c : Expr} {pos : Pos} (g : GX S G cl sc X W) (hp : plainE b = true) (hp2 : plainE c = true) (ha : PE X a (tP X.K G cl W p)) (hb : PE X b (tP X.K G cl W q)) (hc : PE X c (tP X.K G cl W r)) :
    PE X (.Compare a [o.op, o'.op] [b, c] pos) (tP X.K G cl W (.cmp3 o o' p q r)) := by
  have hu : X.A.units + 65 < cLine := by have := g.hu; omega
  refine PE.mono (pe_chain (op_cmpO hu o) (op_cmpO hu o') ha hb hc (lastM_plain hp2)) fun σ H Q ⟨ρ, hid, ho, vr, h⟩ => ?_
  have h : POut X.K cl σ H hid W (O1 X.K hid) (do
    let t ← p.ev G ρ
    let u ← q.ev G ρ
    if ← cmpD o t.d u.d then (do
      let v ← r.ev G ρ
      return .fz (.bool (← cmpD o' u.d v.d))) else .ok (.fz (.bool false))) Q := h
  refine ⟨ρ, hid, ho, vr, POut.imp m1 (POut.bind1 g1 h) fun v H1 ⟨t, fp, s, fr, ot, h2⟩ => ?_⟩
  refine ⟨ρ, hid, ho.grow s, vr.grow ho s, POut.imp m1 (POut.bind1 g1 h2) fun w H2 ⟨u, fq, s2, fr2, ou, h3⟩ => ?_⟩
  have ho2 := (ho.grow s).grow s2
  have r1 := (ot.grow s2).shown ho2 (fun a ha => ho.fresh (fr a ha))
  have r2 := ou.seen (ho.grow s) s2 fr2
  refine ⟨hid, t.d, u.d, r1, r2, ?_⟩
  cases e : cmpD o t.d u.d with
  | no => rw [e] at h3; exact h3.elim
  | ex c fs => exact absurd e (nx_cmpD _ _ _ c fs)
  | ok k =>
    rw [e] at h3
    refine ⟨k, rfl, ?_⟩
    cases k with
    | false => exact Out.fz (out_of h3) (.bl false)
    | true =>
      refine ⟨ρ, hid, ho2, (vr.grow ho s).grow (ho.grow s) s2, POut.imp m1 (POut.bind1 g1 (show POut X.K cl σ H2 hid W (O1 X.K hid) (do
        let v ← r.ev G ρ
        return .fz (.bool (← cmpD o' u.d v.d))) Q from h3)) fun z H3 ⟨v3, fp3, s3, fr3, ov, h4⟩ => ?_⟩
      exact ⟨hid, u.d, v3.d, r2.sub (hide_grow ho2 s3), ov.seen ho2 s3 fr3, rout_bool (h4.rout (nx_bind (nx_cmpD _ _ _) fun _ => nx_ok _))⟩
theorem nx_rvD (d : D) : NoEx (rvD d) := by cases d <;> first | exact nx_ok _ | exact nx_no
theorem snd_rv {p : P} {a : Expr} {k : Nat} {p1 p2 p3 pos : Pos} (ha : PE X a (tP X.K G cl W p)) : PE X (.Subscript a (.Slice none none (some (.UnaryOp .USub (.Constant (.int 1) k p1) p2)) p3) pos) (tP X.K G cl W (.rv p)) := by
  refine PE.mono (pe_revL ha) fun σ H Q h => one (O := fun t => rvD t.d) h fun ρ hid fp t x H ho vr nf o h => ?_
  have r := o.shown ho nf
  cases e : t.d with
  | list ds =>
    rw [e] at h r
    cases r with
    | lst hs rr => exact ⟨_, _, rfl, sqL_sub (hide_sub _ _) hs, fun q hq => Out.lst ho (show Out X.K H hid (.lst (fzs ds.reverse)) Q from h) rr.reverse hq⟩
  | _ =>
    rw [e] at h
    exact h.elim
theorem snd_hcall {f : Str} {k : Nat} {p : P} {e : Expr} {p1 pos : Pos} (g : GX S G cl sc X W) (hk : S.hnn[k]? = some f) (h2 : glB sc f = true) (h4 : okName f = true) (pl : plainE e = true) (he : PE X e (tP X.K G cl W p)) :
    PE X (.Call (.Name f p1) [e] [] pos) (tP X.K G cl W (.hcall k p)) := by
  refine ⟨fun pins s σ H Q I ⟨ρ, hid, ho, vr, q⟩ => ?_⟩
  have q : POut X.K cl σ H hid W (O1 X.K hid) (match G.hx with
    | some _ => (do
      let t ← p.ev G ρ
      (G.fh k t.d).shut)
    | none => .no) Q := q
  cases eh : G.hx with
  | none => rw [eh] at q; exact q.elim
  | some cf =>
    obtain ⟨c, fs⟩ := cf
    rw [eh] at q
    dsimp only at q
    have xx := g.hx c fs eh
    obtain ⟨oe, mem, hz, hd⟩ := xx.obj
    obtain ⟨fa, fd, ps, n, e1, e2, F, hr, hb⟩ := xx.fd k f hk
    refine wpAny_Call_Name_kw (ld_glob I (gl_of g.sc h2) e1 ?_ (okN h4).1)
    have pa : PA X [e] (tCons (tP X.K G cl W p) tNil) := pa_cons he pa_nil (star_of pl [] _)
    refine PySem.W.callWith_K (h₀ := X.base) I.ok.mod.kin e2 (thn (pa.run pos pins s σ H (fun vs H1 => ∃ v t fp, vs = [v] ∧ Ext H H1 ∧ (∀ a ∈ fp, H a = none) ∧ Own X.K H1 (fp ++ hid) t v fp ∧ POut X.K cl σ H1 hid W (O1 X.K hid) ((G.fh k t.d).shut) Q) I ⟨ρ, hid, ho, vr, POut.imp Gn.m1 (POut.bind1 g1 q) fun v H1 ⟨t, fp, s, fr, o, h2⟩ => ⟨v, t, fp, rfl, s, fr, o, h2⟩⟩) fun us s1 ⟨vs, H1, I1, r, ee⟩ => ⟨I1.kIn, ?_⟩) (star_of pl [] _) rfl
    obtain ⟨v, t, fp, rfl, sb, fr, o, q1⟩ := ee
    obtain ⟨u, rfl, ru⟩ := vals1' r
    have P1 := I1.pin (cl.xa, oe) (List.mem_append_left _ mem)
    have hpin : L2H.PinOk X.stack H1 s1 (cl.xa, oe) := ⟨P1.1, P1.2.1, fun hm => (List.mem_cons.mp (I1.stkSub cl.xa hm)).elim P1.2.2.1 P1.2.2.2.1, P1.2.2.2.2⟩
    have b := hb s1 [u] I1.kIn (by rw [List.append_nil, F.one]; rfl)
    rw [List.append_nil] at b
    have q' : POut X.K cl [] H1 hid (fun _ _ _ _ => False) (O1 X.K hid) (G.fh k t.d) Q := by
      cases e : G.fh k t.d with
      | ok t => rw [e] at q1; exact q1
      | ex _ _ => rw [e] at q1; exact q1.elim
      | no => rw [e] at q1; exact q1.elim
    refine wpAny_call (codeAny_mono (F.run X.A X.stack s1 H1 ⟨[u], []⟩ Q (cl.xa, oe) v u t.d hid cl hr hpin I1.env0 b ru (sb.tabs vr.x.tb) (ho.grow sb) (o.seen ho sb fr) q') fun r s' hq => ?_)
    cases r with
    | error e =>
      obtain ⟨_, _, _, _, _, _, _, _, _, _, _, _, z⟩ := hq
      exact z.elim
    | ok fl =>
      cases fl with
      | ret u => exact I1.after hq
      | next => exact False.elim hq
      | brk => exact False.elim hq
      | cont => exact False.elim hq
theorem nx_ssetD (d : D) : NoEx (ssetD d) := by
  unfold ssetD
  split <;> first | exact nx_bind (nx_of _) fun _ => nx_ite (nx_ok _) nx_no | exact nx_no
theorem snd_sset {p : P} {a : Expr} {p1 p2 p3 pos : Pos} (g : GX S G cl sc X W) (hh : S.hot = false) (b1 : S.bt.contains ("sorted" : Str) = true) (b2' : S.bt.contains ("set" : Str) = true) (g1' : glB sc ("sorted" : Str) = true) (g2' : glB sc ("set" : Str) = true) (hp : plainE a = true) (ha : PE X a (tP X.K G cl W p)) :
    PE X (.Call (.Name ("sorted" : Str) p1) [.Call (.Name ("set" : Str) p2) [a] [] p3] [] pos) (tP X.K G cl W (.sset p)) := by
  have inner := pe_callTy (p := p2) (pos := p3) (cr_setI (g.calm hh)) (gl_of g.sc g2') (g.bt _ (mem_of b2')) boot_set (pa_cons ha pa_nil (star_of hp [] X.env)) (by decide +kernel) (by decide +kernel) (star_of hp [] X.env) rfl
  refine PE.mono (pe_callB (cr_sortedSet (g.calm hh)) (gl_of g.sc g1') (g.bt _ (mem_of b1)) (by decide +kernel) (pa_cons inner pa_nil) (by decide +kernel) (by decide +kernel)) fun σ H Q h => one (O := fun t => ssetD t.d) h fun ρ hid fp t x H1 ho vr nf o h => ?_
  have r := o.shown ho nf
  cases e : t.d with
  | list ds =>
    rw [e] at h r
    have h : POut X.K cl σ H1 hid W (O1 X.K hid) (do
      let ns ← R.of (intsOf ds)
      if ns.length < 64 then .ok (.lst (fzs ((setI ns).map .int))) else .no) Q := h
    cases ei : intsOf ds with
    | none => rw [ei] at h; exact h.elim
    | some ns =>
      rw [ei] at h
      obtain ⟨c, h5⟩ := rite (show ROut X.K H1 hid (if ns.length < 64 then .ok (.lst (fzs ((setI ns).map .int))) else .no) Q from (h.rout (nx_ite (nx_ok _) nx_no)))
      have e2 := intsOf_some ei
      subst e2
      cases r with
      | lst hs rr =>
        rw [rr.ints] at hs
        refine ⟨_, ns, rfl, sqL_sub (hide_sub _ _) hs, c, fun k q hk hq => ?_⟩
        refine ⟨q, _, k, rfl, upd_same, by omega, fun ms z h1 h2 _ hz => ?_⟩
        have es : ms = setI ns := asc_ext h1 (setI_asc ns) fun y => by rw [h2, setI_mem]; simp
        subst es
        have s1 : Ext H1 (upd H1 q (SetO X.w q (fun j => decide (j ∈ ns)) k)) := sub_upd hq
        exact Out.lst (ho.grow s1) (Out.grow h5 s1) (Reps.of_ints _) hz
  | _ =>
    rw [e] at h
    exact h.elim
theorem nx_lsetD (d : D) : NoEx (lsetD d) := by
  unfold lsetD
  split
  · unfold lsetL
    split
    · exact nx_ite (nx_ok _) nx_no
    · exact nx_bind (nx_of _) fun _ => nx_ite (nx_ok _) nx_no
  · exact nx_no
theorem snd_lset {p : P} {a : Expr} {p1 p2 p3 pos : Pos} (g : GX S G cl sc X W) (hh : S.hot = false) (b1 : S.bt.contains ("len" : Str) = true) (b2' : S.bt.contains ("set" : Str) = true) (g1' : glB sc ("len" : Str) = true) (g2' : glB sc ("set" : Str) = true) (hp : plainE a = true) (ha : PE X a (tP X.K G cl W p)) :
    PE X (.Call (.Name ("len" : Str) p1) [.Call (.Name ("set" : Str) p2) [a] [] p3] [] pos) (tP X.K G cl W (.lset p)) := by
  have inner := pe_callTy (p := p2) (pos := p3) (cr_setX (g.calm hh)) (gl_of g.sc g2') (g.bt _ (mem_of b2')) boot_set (pa_cons ha pa_nil (star_of hp [] X.env)) (by decide +kernel) (by decide +kernel) (star_of hp [] X.env) rfl
  refine PE.mono (pe_callB cr_lenX (gl_of g.sc g1') (g.bt _ (mem_of b1)) (by decide +kernel) (pa_cons inner pa_nil) (by decide +kernel) (by decide +kernel)) fun σ H Q h => one (O := fun t => lsetD t.d) h fun ρ hid fp t x H1 ho vr nf o h => ?_
  have r := o.shown ho nf
  cases e : t.d with
  | list ds =>
    rw [e] at h r
    have h : POut X.K cl σ H1 hid W (O1 X.K hid) (lsetL ds) Q := h
    cases ei : intsOf ds with
    | none =>
      have le : lsetL ds = (do
        let xs ← R.of (strsOf ds)
        if xs.length < 4000 then .ok (.fz (.int ((ddS xs).length : Int))) else .no) := by
        unfold lsetL
        rw [ei]
      rw [le] at h
      cases es : strsOf ds with
      | none => rw [es] at h; exact h.elim
      | some ns =>
        rw [es] at h
        obtain ⟨c, h5⟩ := rite (show ROut X.K H1 hid (if ns.length < 4000 then .ok (.fz (.int ((ddS ns).length : Int))) else .no) Q from (h.rout (nx_ite (nx_ok _) nx_no)))
        have e2 := strsOf_some es
        subst e2
        cases r with
        | lst hs rr =>
          rw [rr.strs] at hs
          refine .inr ⟨_, ns, rfl, sqL_sub (hide_sub _ _) hs, c, fun q hq => ?_⟩
          have dl := ddS_len ns
          refine .inr ⟨q, _, _, rfl, upd_same, by omega, ?_⟩
          have s1 : Ext H1 (upd H1 q (SetT X.prog X.w q (fun j => decide (j ∈ ns)) (ddS ns).length)) := sub_upd hq
          exact Out.fz (Out.grow h5 s1) (.int _)
    | some ns =>
      have le : lsetL ds = if ns.length < 4000 then .ok (.fz (.int ((setI ns).length : Int))) else .no := by
        unfold lsetL
        rw [ei]
      rw [le] at h
      obtain ⟨c, h5⟩ := rite (show ROut X.K H1 hid (if ns.length < 4000 then .ok (.fz (.int ((setI ns).length : Int))) else .no) Q from (h.rout (nx_ite (nx_ok _) nx_no)))
      have e2 := intsOf_some ei
      subst e2
      cases r with
      | lst hs rr =>
        rw [rr.ints] at hs
        refine .inl ⟨_, ns, rfl, sqL_sub (hide_sub _ _) hs, c, fun k q hk hk2 hq => ?_⟩
        subst hk
        refine .inl ⟨q, _, _, rfl, upd_same, by omega, ?_⟩
        have s1 : Ext H1 (upd H1 q (SetO X.w q (fun j => decide (j ∈ ns)) (setI ns).length)) := sub_upd hq
        exact Out.fz (Out.grow h5 s1) (.int _)
  | _ =>
    rw [e] at h
    exact h.elim
theorem snd_lrev {p : P} {a : Expr} {p1 p2 p3 pos : Pos} (g : GX S G cl sc X W) (hh : S.hot = false) (b1 : S.bt.contains ("list" : Str) = true) (b2' : S.bt.contains ("reversed" : Str) = true) (g1' : glB sc ("list" : Str) = true) (g2' : glB sc ("reversed" : Str) = true) (hp : plainE a = true) (ha : PE X a (tP X.K G cl W p)) :
    PE X (.Call (.Name ("list" : Str) p1) [.Call (.Name ("reversed" : Str) p2) [a] [] p3] [] pos) (tP X.K G cl W (.lrev p)) := by
  refine PE.mono (pe_listRev (g.calm hh) (gl_of g.sc g1') (g.bt _ (mem_of b1)) (gl_of g.sc g2') (g.bt _ (mem_of b2')) ha (star_of hp [] X.env) (star_of rfl [] X.env)) fun σ H Q h => one (O := fun t => rvD t.d) h fun ρ hid fp t x H ho vr nf o h => ?_
  have r := o.shown ho nf
  cases e : t.d with
  | list ds =>
    rw [e] at h r
    cases r with
    | lst hs rr => exact ⟨_, _, rfl, sqL_sub (hide_sub _ _) hs, fun q hq => Out.lst ho (show Out X.K H hid (.lst (fzs ds.reverse)) Q from h) rr.reverse hq⟩
  | _ =>
    rw [e] at h
    exact h.elim
theorem nx_lrngD (d : D) : NoEx (lrngD d) := by
  cases d <;> first | exact nx_ite (nx_ok _) nx_no | exact nx_no
theorem snd_lrng {p : P} {a : Expr} {p1 p2 p3 pos : Pos} (g : GX S G cl sc X W) (hh : S.hot = false) (b1 : S.bt.contains ("list" : Str) = true) (b2' : S.bt.contains ("range" : Str) = true) (g1' : glB sc ("list" : Str) = true) (g2' : glB sc ("range" : Str) = true) (hp : plainE a = true) (ha : PE X a (tP X.K G cl W p)) :
    PE X (.Call (.Name ("list" : Str) p1) [.Call (.Name ("range" : Str) p2) [a] [] p3] [] pos) (tP X.K G cl W (.lrng p)) := by
  refine PE.mono (pe_listRg (g.calm hh) (gl_of g.sc g1') (g.bt _ (mem_of b1)) (prg_1 (gl_of g.sc g2') (g.bt _ (mem_of b2')) ha (star_of hp [] X.env))) fun σ H Q h => one (O := fun t => lrngD t.d) h fun ρ hid fp t x H ho vr nf o h => ?_
  have r := o.shown ho nf
  cases e : t.d with
  | int n =>
    rw [e] at h r
    cases r
    obtain ⟨c, h⟩ := rite (show ROut X.K H hid (if -(2 ^ 62) ≤ n ∧ n ≤ 16777216 then .ok (.lst (fzs ((List.range n.toNat).map fun (k : Nat) => .int (k : Int)))) else .no) Q from (h.rout (nx_lrngD _)))
    refine ⟨n, rfl, ⟨by omega, by omega, by omega, by omega, by omega⟩, fun q hq => ?_⟩
    have er : rgV 0 n = ((List.range n.toNat).map fun (k : Nat) => (k : Int)).map V.int := by
      unfold rgV
      rw [Int.sub_zero, List.map_map]
      congr 1
      funext k
      simp
    have ed : ((List.range n.toNat).map fun (k : Nat) => PyData.int (k : Int)) = ((List.range n.toNat).map fun (k : Nat) => (k : Int)).map PyData.int := by
      rw [List.map_map]
      rfl
    rw [ed] at h
    rw [er]
    exact Out.lst ho h (Reps.of_ints _) hq
  | _ =>
    rw [e] at h
    exact h.elim
def MT.ty : MT → String
  | .index | .count => "list"
  | _ => "str"
theorem mt_tyV {K : PySem.W.Frag} {H : Hp} {hid : List Addr} {m : MT} {d : D} {v : V} (r : Rep K (hide H hid) d v) (h : mtTy m d = true) : tyV K m.ty v H := by
  cases r with
  | str x hx => cases m <;> first | rfl | cases h
  | lst ha _ => cases m <;> first | exact .inl ⟨rfl, _, sqL_sub (hide_sub _ _) ha⟩ | cases h
  | _ => cases m <;> cases h
theorem mem_joinL {c : Nat} {s : List Nat} : ∀ {ps : List (List Nat)}, c ∈ TL.joinL s ps → c ∈ s ∨ ∃ p ∈ ps, c ∈ p
  | [], h => nomatch h
  | [p], h => .inr ⟨p, by simp, h⟩
  | p :: q :: r, h => by
    rcases List.mem_append.mp (show c ∈ p ++ (s ++ TL.joinL s (q :: r)) from h) with z | z
    · exact .inr ⟨p, by simp, z⟩
    · rcases List.mem_append.mp z with z | z
      · exact .inl z
      · rcases mem_joinL z with z | ⟨x, hx, z⟩
        · exact .inl z
        · exact .inr ⟨x, by simp only [List.mem_cons] at hx ⊢; exact .inr hx, z⟩
theorem len_joinL {s : List Nat} : ∀ (ps : List (List Nat)), (TL.joinL s ps).length ≤ (ps.map List.length).sum + ps.length * s.length
  | [] => by simp [TL.joinL]
  | [p] => by simp [TL.joinL]
  | p :: q :: r => by
    have := len_joinL (s := s) (q :: r)
    show (p ++ (s ++ TL.joinL s (q :: r))).length ≤ _
    simp only [List.length_append, List.map_cons, List.sum_cons, List.length_cons, Nat.succ_mul] at this ⊢
    omega
theorem mem_spl {c : Nat} {s : List Nat} : ∀ {k : Nat} {acc l p : List Nat}, p ∈ TL.spl s k acc l → c ∈ p → c ∈ acc ∨ c ∈ l
  | _, acc, [], p, h, hc => by
    have : p = acc := by simpa [TL.spl] using h
    rw [this] at hc
    exact .inl hc
  | 0, acc, x :: r, p, h, hc => by
    unfold TL.spl at h
    split at h
    · rcases List.mem_cons.mp h with z | z
      · rw [z] at hc; exact .inl hc
      · rcases mem_spl z hc with z | z
        · cases z
        · exact .inr (List.mem_cons_of_mem _ z)
    · rcases mem_spl h hc with z | z
      · rcases List.mem_append.mp z with z | z
        · exact .inl z
        · exact .inr (by simp only [List.mem_singleton] at z; rw [z]; exact List.mem_cons_self)
      · exact .inr (List.mem_cons_of_mem _ z)
  | k + 1, acc, x :: r, p, h, hc => by
    rcases mem_spl (show p ∈ TL.spl s k acc r from h) hc with z | z
    · exact .inl z
    · exact .inr (List.mem_cons_of_mem _ z)
theorem len_spl {s : List Nat} : ∀ {k : Nat} {acc l p : List Nat}, p ∈ TL.spl s k acc l → p.length ≤ acc.length + l.length
  | _, acc, [], p, h => by
    have : p = acc := by simpa [TL.spl] using h
    rw [this]
    simp
  | 0, acc, x :: r, p, h => by
    unfold TL.spl at h
    split at h
    · rcases List.mem_cons.mp h with z | z
      · rw [z]; omega
      · have := len_spl z; simp at this ⊢; omega
    · have := len_spl h; simp at this ⊢; omega
  | k + 1, acc, x :: r, p, h => by
    have := len_spl (show p ∈ TL.spl s k acc r from h)
    simp at this ⊢
    omega
theorem mkS_tl (x : Str) : mkS (TL.tl x) = x := by
  obtain ⟨⟨l⟩⟩ := x
  rfl
theorem strOk_mk {l : List Nat} (h : l.length ≤ sizeLine) (k : ∀ c ∈ l, c < 0x110000) : StrOk (mkS l) := ⟨h, by simpa [mkS] using k⟩
def rMT (K : PySem.W.Frag) (m : MT) : V → List V → Hp → VK → Prop := fun x xs H Q => ∃ hid d ds, HidOk H hid ∧ Rep K (hide H hid) d x ∧ Reps K (hide H hid) ds xs ∧ ROut K H hid (mtD m d ds) Q
def MT.id : MT → String
  | .join => "str.join"
  | .split => "str.split"
  | .find => "str.find"
  | .starts => "str.startswith"
  | .index => "list.index"
  | .count => "list.count"
theorem join_run {s : Str} {ds : List D} {p : Addr} {vs : List V} {hid : List Addr} {H : Hp} {Q : VK} (hs : SqL X.K H p vs ∨ SqT X.K H p vs) (rr : Reps X.K (hide H hid) ds vs) (os : StrOk s) (h : ROut X.K H hid (joinD s ds) Q) :
    ∃ a q, ∃ ys : List Str, V.str s = .str a ∧ [V.ref p] = [.ref q] ∧ (SqL X.K H q (ys.map V.str) ∨ SqT X.K H q (ys.map V.str)) ∧ (ys.map (·.length)).sum + ys.length * a.length ≤ 16777216 ∧ Q (.str (PySem.Txt.join a ys)) H := by
  obtain ⟨xs, e, h1⟩ := rbind h
  obtain ⟨c, h2⟩ := rite h1
  have ed := strsOf_some e
  subst ed
  have ev := rr.strs
  subst ev
  refine ⟨s, p, xs, rfl, rfl, hs, c, ?_⟩
  have hz : PySem.Txt.join s xs = mkS (TL.joinL (TL.tl s) (xs.map TL.tl)) := by rw [TL.join_eq, ← TL.tl_join, mkS_tl]
  rw [hz]
  refine Out.fz h2 (.str _ (strOk_mk ?_ fun c hc => ?_))
  · have := len_joinL (s := TL.tl s) (xs.map TL.tl)
    rw [List.map_map, List.length_map] at this
    have e1 : xs.map (List.length ∘ TL.tl) = xs.map (·.length) := by
      congr 1
    rw [e1] at this
    have e2 : (TL.tl s).length = s.length := rfl
    rw [e2] at this
    rw [sizeLine_eq]
    omega
  · rcases mem_joinL hc with z | ⟨q, hq, z⟩
    · exact os.2 c z
    · obtain ⟨x, hx, rfl⟩ := List.mem_map.mp hq
      have : ∀ {ys : List Str} {ws : List V}, Reps X.K (hide H hid) (ys.map PyData.str) ws → ∀ y ∈ ys, StrOk y := by
        intro ys
        induction ys with
        | nil => intro ws _ y hy; cases hy
        | cons y0 ys ih =>
          intro ws r y hy
          cases r with
          | cons r1 r2 =>
            cases r1 with
            | str _ ok =>
              rcases List.mem_cons.mp hy with w | w
              · rw [w]; exact ok
              · exact ih r2 y w
      exact (this rr x hx).2 c z
theorem cr_mt (hu : X.A.units + 65 < cLine) (m : MT) : MtR X m.id (rMT X.K m) := by
  intro pins s σ H x xs v us Q I rx rxs ⟨hid, d, ds, ho, hd, hds, h⟩
  have no : ∀ {P : Prop}, ROut X.K H hid .no Q → P := fun z => z.elim
  have vis : ∀ {a xs}, SqL X.K (hide H hid) a xs → SqL X.K H a xs := fun z => sqL_sub (hide_sub _ _) z
  have visT : ∀ {a xs}, SqT X.K (hide H hid) a xs → SqT X.K H a xs := fun z => sqT_sub (hide_sub _ _) z
  cases hds with
  | nil => cases m <;> cases d <;> exact no h
  | cons d1 rest =>
    cases rest with
    | cons d2 rest => cases m <;> cases hd <;> cases d1 <;> exact no h
    | nil =>
      cases m with
      | join =>
        cases hd with
        | str z hz =>
          cases d1 with
          | lst ha ra => exact mt_join pins s σ H _ _ v us Q I rx rxs (join_run (.inl (vis ha)) ra hz h)
          | tup ha ra => exact mt_join pins s σ H _ _ v us Q I rx rxs (join_run (.inr (visT ha)) ra hz h)
          | _ => exact no h
        | _ => cases d1 <;> exact no h
      | split =>
        cases hd with
        | str z hz =>
          cases d1 with
          | str y hy =>
            obtain ⟨⟨c1, c2, c3⟩, h⟩ := rite (show ROut X.K H hid (if y.length = 1 ∧ (∀ c ∈ TL.tl y, c < 128) ∧ z.length + 2 ≤ sizeLine then .ok (.lst (fzs ((TL.spl (TL.tl y) 0 [] (TL.tl z)).map fun l => .str (mkS l)))) else .no) Q from h)
            refine mt_split pins s σ H _ _ v us Q I rx rxs ⟨z, y, rfl, rfl, by rw [c1] <;> rfl, c3, fun p hp => ?_⟩
            have hne : TL.tl y ≠ [] := fun e => by
              have : (TL.tl y).length = 1 := c1
              rw [e] at this
              cases this
            have hk : y.cps.all (· < 256) = true := by
              rw [Array.all_eq_true_iff_forall_mem]
              intro c hc
              have := c2 c (by simpa using hc)
              simp
              omega
            have e := TL.split_spl z y hne (TL.kind_ok hk)
            have e2 : PySem.Txt.split z y = (TL.spl (TL.tl y) 0 [] (TL.tl z)).map mkS := by
              rw [← e, List.map_map]
              have : (mkS ∘ TL.tl) = id := funext fun x => mkS_tl x
              rw [this, List.map_id]
            rw [e2]
            have e3 : ((TL.spl (TL.tl y) 0 [] (TL.tl z)).map fun l => PyData.str (mkS l)) = ((TL.spl (TL.tl y) 0 [] (TL.tl z)).map mkS).map PyData.str := by rw [List.map_map]; rfl
            rw [e3] at h
            refine Out.lst ho h (Reps.of_strs _ fun x hx => ?_) hp
            obtain ⟨l, hl, rfl⟩ := List.mem_map.mp hx
            refine strOk_mk ?_ fun c hc => ?_
            · have := len_spl hl
              have e4 : (TL.tl z).length = z.length := rfl
              rw [List.length_nil, Nat.zero_add, e4] at this
              have e5 := sizeLine_eq
              omega
            · rcases mem_spl hl hc with w | w
              · cases w
              · exact hz.2 c w
          | _ => exact no h
        | _ => cases d1 <;> exact no h
      | find =>
        cases hd with
        | str z hz =>
          cases d1 with
          | str y hy => exact mt_find pins s σ H _ _ v us Q I rx rxs ⟨z, y, rfl, rfl, Out.fz h (.int _)⟩
          | _ => exact no h
        | _ => cases d1 <;> exact no h
      | starts =>
        cases hd with
        | str z hz =>
          cases d1 with
          | str y hy => exact mt_startswith pins s σ H _ _ v us Q I rx rxs ⟨z, y, rfl, rfl, Out.fz h (.bl _)⟩
          | _ => exact no h
        | _ => cases d1 <;> exact no h
      | index =>
        cases hd with
        | @lst a vs dl ha ra =>
          have key : ∀ (xs : List V) (rxs : Vals xs us) (e : D) (w : V), Rep X.K (hide H hid) e w → ROut X.K H hid (indexD e dl) Q → xs = [w] → wpAny (model X.prog X.w) X.A (call (.builtin "list.index") (v :: us)) (EP X pins σ Q) X.xe s := fun xs rxs e w re h ex => by
            obtain ⟨⟨⟨c1, c2⟩, n1, n2⟩, h⟩ := rite (show ROut X.K H hid (if (e.depth ≤ 60 ∧ PyData.depthAll dl < 60) ∧ nd e = true ∧ nds dl = true then (match dl.findIdx? fun z => PyData.eqv z e with
              | some j => .ok (.fz (.int j))
              | none => .no) else .no) Q from h)
            cases ef : dl.findIdx? fun z => PyData.eqv z e with
            | none => rw [ef] at h; exact no h
            | some j =>
              rw [ef] at h
              obtain ⟨hj, hp, hno⟩ := List.findIdx?_eq_some_iff_getElem.mp ef
              have rl : Rep X.K H (.list dl) (.ref a) := (Rep.lst ha ra).sub (hide_sub _ _)
              have rw' : Rep X.K H e w := re.sub (hide_sub _ _)
              refine mt_indexD hu pins s σ H _ _ v us Q I rx rxs ⟨a, w, e, dl, j, dl[j], rfl, ex, rl.dp n2, rw'.dp n1, shaped_of rl (by
                show (PyData.list dl).depth ≤ 64
                have : (PyData.list dl).depth = PyData.depthAll dl + 1 := by simp [PyData.depth]
                omega) n2, shaped_of rw' (by omega) n1, List.getElem?_eq_getElem hj, hp, fun m z' hm hz' => ?_, Out.fz h (.int _)⟩
              obtain ⟨hl, e2⟩ := List.getElem?_eq_some_iff.mp hz'
              have := hno m hm
              rw [e2] at this
              simpa using this
          exact key _ rxs _ _ d1 h rfl
        | _ => cases d1 <;> exact no h
      | count =>
        cases hd with
        | @lst a vs dl ha ra =>
          cases d1 with
          | int k =>
            obtain ⟨ns, e, h1⟩ := rbind h
            have e2 := intsOf_some e
            subst e2
            have e3 := ra.ints
            subst e3
            exact mt_lcount pins s σ H _ _ v us Q I rx rxs ⟨a, ns, k, rfl, rfl, vis ha, Out.fz h1 (.int _)⟩
          | _ => exact no h
        | _ => cases d1 <;> exact no h
theorem nx_mtD (m : MT) (d : D) (ds : List D) : NoEx (mtD m d ds) := by
  unfold mtD
  split <;> first
    | exact nx_ok _
    | exact nx_no
    | exact nx_bind (nx_of _) fun _ => nx_ite (nx_ok _) nx_no
    | exact nx_ite (nx_ok _) nx_no
    | exact nx_bind (nx_of _) fun _ => nx_ok _
    | (unfold indexD; refine nx_ite ?_ nx_no; split <;> first | exact nx_ok _ | exact nx_no)
theorem attr_base {o : Expr} {x : Str} {env : PySem.Env} (h : attrB o = true) (z : Sem Value) : attributeBase o x env z = z := by
  cases o with
  | Call f es ks p =>
    cases es with
    | nil => cases h
    | cons e es => cases f <;> rfl
  | _ => first | rfl | cases h
theorem few_one {e : Expr} {env : PySem.Env} {cpos : Pos} (h : plainE e = true) : ((backTo cpos (starEach (e :: []) env)).all (fun x => !x.1) && (backToKw cpos (keywordEach [] env)).all (fun x => x.1.isSome)
      && decide ((e :: ([] : List Expr)).length + ([] : List Keyword).length + (if ([] : List Keyword).isEmpty then 0 else 1) < 30)) = true := by
  rw [star_of h]
  rfl
theorem nx_upperD (d : D) : NoEx (upperD d) := by
  unfold upperD
  split <;> first | exact nx_ite (nx_ok _) nx_no | exact nx_no
theorem snd_upper {p : P} {o : Expr} {ap pos : Pos} (g : GX S G cl sc X W) (at_ : attrB o = true) (hl : (ap.endLine == pos.line) = true) (hp : PE X o (tP X.K G cl W p)) :
    PE X (.Call (.Attribute o ("upper" : Str) ap) [] [] pos) (tP X.K G cl W (.upper p)) := by
  refine PE.mono (pe_bm0 PySem.F.plainAttrs_str PySem.F.slot_str_upper PySem.F.type_str_upper mt_upper hp (attr_base at_ _) hl) fun σ H Q h => one (O := fun t => upperD t.d) h fun ρ hid fp t x H1 ho vr nf o h => ?_
  have r := o.shown ho nf
  cases e : t.d with
  | str y =>
    rw [e] at h r
    cases r with
    | str _ hy =>
      obtain ⟨c, h⟩ := rite (show ROut X.K H1 hid (if y.length ≤ 1000 ∧ (PySem.Txt.upper y).length ≤ sizeLine ∧ (PySem.Txt.upper y).cps.toList.all (fun c => decide (c < 0x110000)) = true then .ok (.fz (.str (PySem.Txt.upper y))) else .no) Q from (h.rout (nx_upperD _)))
      exact ⟨rfl, y, rfl, rfl, by omega, Out.fz h (.str _ ⟨c.2.1, fun z hz => of_decide_eq_true (List.all_eq_true.mp c.2.2 z hz)⟩)⟩
  | _ =>
    rw [e] at h
    exact h.elim
theorem snd_mt {m : MT} {p : P} {ps : List P} {o e : Expr} {ap cp : Pos} (g : GX S G cl sc X W) (hb : attrB o = true) (hl : (ap.endLine == cp.line) = true) (hp : plainE e = true) (ho : PE X o (tP X.K G cl W p)) (ha : PA X [e] (tPs X.K G cl W ps)) :
    PE X (.Call (.Attribute o m.name ap) [e] [] cp) (tP X.K G cl W (.mt m p ps)) := by
  have hu : X.A.units + 65 < cLine := by have := g.hu; omega
  have pe : PE X (.Call (.Attribute o m.name ap) [e] [] cp) (tBM X.K m.ty (rMT X.K m) (tP X.K G cl W p) (tPs X.K G cl W ps)) := by
    have z := cr_mt (X := X) hu m
    cases m with
    | join => exact pe_bm PySem.F.plainAttrs_str PySem.F.slot_str_join PySem.F.type_str_join z ho ha (attr_base hb _) (few_one hp) hl (star_of hp [] X.env) rfl
    | split => exact pe_bm PySem.F.plainAttrs_str PySem.F.slot_str_split PySem.F.type_str_split z ho ha (attr_base hb _) (few_one hp) hl (star_of hp [] X.env) rfl
    | find => exact pe_bm PySem.F.plainAttrs_str PySem.F.slot_str_find PySem.F.type_str_find z ho ha (attr_base hb _) (few_one hp) hl (star_of hp [] X.env) rfl
    | starts => exact pe_bm PySem.F.plainAttrs_str PySem.F.slot_str_startswith PySem.F.type_str_startswith z ho ha (attr_base hb _) (few_one hp) hl (star_of hp [] X.env) rfl
    | index => exact pe_bm PySem.F.plainAttrs_list PySem.F.slot_list_index PySem.F.type_list_index z ho ha (attr_base hb _) (few_one hp) hl (star_of hp [] X.env) rfl
    | count => exact pe_bm PySem.F.plainAttrs_list PySem.F.slot_list_count PySem.F.type_list_count z ho ha (attr_base hb _) (few_one hp) hl (star_of hp [] X.env) rfl
  refine PE.mono pe fun σ H Q ⟨ρ, hid, ho, vr, h⟩ => ?_
  have h : POut X.K cl σ H hid W (O1 X.K hid) (do
    let t ← p.ev G ρ
    if mtTy m t.d then (do
      let ts ← P.evs G ps ρ
      mtD m t.d (T.ds ts)) else .no) Q := h
  refine ⟨ρ, hid, ho, vr, POut.imp m1 (POut.bind1 g1 h) fun v H1 ⟨t, fp, s, fr, ot, h2⟩ => ?_⟩
  have nf : ∀ a ∈ fp, a ∉ hid := fun a ha => ho.fresh (fr a ha)
  have r1 := ot.seen ho s fr
  by_cases c : mtTy m t.d = true
  · rw [if_pos c] at h2
    refine ⟨mt_tyV r1 c, ρ, hid, ho.grow s, vr.grow ho s, POut.imp ms (POut.binds g1 h2) fun vs H2 ⟨ts, fq, s2, fr2, os, h3⟩ => ?_⟩
    exact ⟨hid, t.d, T.ds ts, (ho.grow s).grow s2, (ot.grow s2).shown ((ho.grow s).grow s2) nf, os.seen (ho.grow s) s2 fr2, h3.rout (nx_mtD _ _ _)⟩
  · rw [if_neg c] at h2
    exact h2.elim
end
end Gn

set_option Elab.async false
set_option linter.all false
set_option maxRecDepth 100000
set_option maxHeartbeats 4000000
namespace Gn
open PySem PySem.Spec PyProof.Rows L2
variable [Tbls]

section
variable {S : Sx} {G : Gam} {cl : Cl} {sc : Scope} {X : Cx} {W : WX}
/-! ### tests -/
theorem bind_bind {α β γ : Type} (r : R α) (f : α → R β) (k : β → R γ) : ((r >>= f) >>= k) = (r >>= fun a => f a >>= k) := by cases r <;> rfl
theorem tst_and (p q : P) (ρ : Rho) : (P.andv p q).tst G ρ = (do
    let b ← p.tst G ρ
    if b then q.tst G ρ else .ok false) := by
  show (do truD (← (do
    let t ← p.ev G ρ
    if ← truD t.d then q.ev G ρ else .ok (.fz t.d))).d) = (do
    let b ← (do truD (← p.ev G ρ).d)
    if b then (do truD (← q.ev G ρ).d) else .ok false)
  cases p.ev G ρ with
  | no => rfl
  | ex c fs => rfl
  | ok t =>
    simp only [R.ok_bind]
    cases e : truD t.d with
    | no => rfl
    | ex c fs => rfl
    | ok b => cases b <;> first | rfl | exact e
theorem tst_or (p q : P) (ρ : Rho) : (P.orv p q).tst G ρ = (do
    let b ← p.tst G ρ
    if b then .ok true else q.tst G ρ) := by
  show (do truD (← (do
    let t ← p.ev G ρ
    if ← truD t.d then .ok (.fz t.d) else q.ev G ρ)).d) = (do
    let b ← (do truD (← p.ev G ρ).d)
    if b then .ok true else (do truD (← q.ev G ρ).d))
  cases p.ev G ρ with
  | no => rfl
  | ex c fs => rfl
  | ok t =>
    simp only [R.ok_bind]
    cases e : truD t.d with
    | no => rfl
    | ex c fs => rfl
    | ok b => cases b <;> first | rfl | exact e
theorem tst_not (p : P) (ρ : Rho) : (P.notv p).tst G ρ = (do return !(← p.tst G ρ)) := by
  show (do truD (← (do
    let t ← p.ev G ρ
    return T.fz (.bool (!(← truD t.d))))).d) = (do return !(← (do truD (← p.ev G ρ).d)))
  cases p.ev G ρ with
  | no => rfl
  | ex c fs => rfl
  | ok t =>
    simp only [R.ok_bind]
    cases truD t.d <;> rfl
theorem tst_cmp (o : CmpO) (p q : P) (ρ : Rho) : (P.cmp o p q).tst G ρ = (do
    let t ← p.ev G ρ
    let u ← q.ev G ρ
    cmpD o t.d u.d) := by
  show (do truD (← (do
    let t ← p.ev G ρ
    let u ← q.ev G ρ
    return T.fz (.bool (← cmpD o t.d u.d)))).d) = _
  cases p.ev G ρ with
  | no => rfl
  | ex c fs => rfl
  | ok t =>
    cases q.ev G ρ with
    | no => rfl
    | ex c fs => rfl
    | ok u =>
      simp only [R.ok_bind]
      cases cmpD o t.d u.d <;> rfl
/-- forms whose truth is asked of their value -/
def ownT : Expr → Bool
  | .UnaryOp .Not _ _ | .BoolOp _ _ _ | .IfExp _ _ _ _ | .Compare _ _ _ _ => false
  | _ => true
theorem ownT_of {e : Expr} (h : ownT e = true) (env : PySem.Env) (whole : Sem Value) : isTrue e env whole = (do
    let v ← whole
    standAt e.pos
    holding [v] (truthy v)) := by
  cases e with
  | UnaryOp op a p => cases op <;> first | rfl | cases h
  | BoolOp _ _ _ => cases h
  | IfExp _ _ _ _ => cases h
  | Compare _ _ _ _ => cases h
  | _ => rfl
theorem bindb_ok' {γ : Type} {K : PySem.W.Frag} {σ : St} {H : Hp} {hid : List Addr} {d : D} {Q : Bool → Hp → Prop} (h : POut K cl σ H hid W Ob (truD d) Q) : ∃ b, truD d = .ok b ∧ Ob H b Q := by
  cases e : truD d with
  | ok b => rw [e] at h; exact ⟨b, rfl, h⟩
  | no => rw [e] at h; exact h.elim
  | ex c fs => exact absurd e (nx_truD d c fs)
theorem snd_own {p : P} {e : Expr} (ho : ownT e = true) (he : PE X e (tP X.K G cl W p)) : PT X e (tPt X.K G cl W p) := by
  refine PT.mono (pt_truth he fun whole => ownT_of ho _ _) fun σ H Q ⟨ρ, hid, hh, vr, h⟩ => ?_
  have h : POut X.K cl σ H hid W Ob (do truD (← p.ev G ρ).d) Q := h
  refine ⟨ρ, hid, hh, vr, POut.imp m1 (POut.bind1 gb h) fun v H1 ⟨t, fp, s, fr, o, h2⟩ => ?_⟩
  obtain ⟨b, e, h3⟩ := bindb_ok' (γ := Unit) h2
  exact ⟨b, truV_of ((o.seen hh s fr).sub (hide_sub _ _)) e, h3 H1 (Ext.refl _)⟩
theorem bout_ob {r : R Bool} {K : PySem.W.Frag} {σ : St} {H : Hp} {hid : List Addr} {Q : Bool → Hp → Prop} (h : POut K cl σ H hid W Ob r Q) (n : NoEx r) : BOut H r fun x H' => ∃ c, x = .bl c ∧ Q c H' := by
  cases r with
  | ok b => exact ⟨b, rfl, h H (Ext.refl _)⟩
  | no => exact h.elim
  | ex c fs => exact absurd rfl (n c fs)
theorem snd_cmpT {o : CmpO} {p q : P} {a b : Expr} {pos : Pos} (g : GX S G cl sc X W) (hp : plainE b = true) (ha : PE X a (tP X.K G cl W p)) (hb : PE X b (tP X.K G cl W q)) : PT X (.Compare a [o.op] [b] pos) (tPt X.K G cl W (.cmp o p q)) := by
  refine PT.mono (pt_cmpR (op_cmpO (by have := g.hu; omega) o) ha hb (plainBehind hp _)) fun σ H Q ⟨ρ, hid, ho, vr, h⟩ => ?_
  rw [tst_cmp] at h
  refine ⟨ρ, hid, ho, vr, POut.imp m1 (POut.bind1 gb h) fun v H1 ⟨t, fp, s, fr, o1, h2⟩ => ?_⟩
  refine ⟨ρ, hid, ho.grow s, vr.grow ho s, POut.imp m1 (POut.bind1 gb h2) fun w H2 ⟨u, fq, s2, fr2, o2, h3⟩ => ?_⟩
  exact ⟨hid, t.d, u.d, (o1.grow s2).shown ((ho.grow s).grow s2) (fun a ha => ho.fresh (fr a ha)), o2.seen (ho.grow s) s2 fr2, bout_ob h3 (nx_cmpD _ _ _)⟩
theorem tst_cmp3 (o o' : CmpO) (p q r : P) (ρ : Rho) : (P.cmp3 o o' p q r).tst G ρ = (do
    let t ← p.ev G ρ
    let u ← q.ev G ρ
    if ← cmpD o t.d u.d then (do
      let v ← r.ev G ρ
      cmpD o' u.d v.d) else .ok false) := by
  show (do truD (← (do
    let t ← p.ev G ρ
    let u ← q.ev G ρ
    if ← cmpD o t.d u.d then (do
      let v ← r.ev G ρ
      return T.fz (.bool (← cmpD o' u.d v.d))) else .ok (.fz (.bool false)))).d) = _
  cases p.ev G ρ with
  | no => rfl
  | ex c fs => rfl
  | ok t =>
    cases q.ev G ρ with
    | no => rfl
    | ex c fs => rfl
    | ok u =>
      simp only [R.ok_bind]
      cases cmpD o t.d u.d with
      | no => rfl
      | ex c fs => rfl
      | ok b =>
        cases b with
        | false => rfl
        | true =>
          simp only [R.ok_bind]
          cases r.ev G ρ with
          | no => rfl
          | ex c fs => rfl
          | ok v =>
            show (do truD (← (do return T.fz (.bool (← cmpD o' u.d v.d)))).d) = cmpD o' u.d v.d
            cases cmpD o' u.d v.d <;> rfl
theorem snd_cmp3T {o o' : CmpO} {p q r : P} {a b c : Expr} {pos : Pos} (g : GX S G cl sc X W) (hp : plainE b = true) (hp2 : plainE c = true) (ha : PE X a (tP X.K G cl W p)) (hb : PE X b (tP X.K G cl W q)) (hc : PE X c (tP X.K G cl W r)) :
    PT X (.Compare a [o.op, o'.op] [b, c] pos) (tPt X.K G cl W (.cmp3 o o' p q r)) := by
  have hu : X.A.units + 65 < cLine := by have := g.hu; omega
  refine PT.mono (pt_chain (op_cmpO hu o) (op_cmpO hu o') ha hb hc (lastM_plain hp2)) fun σ H Q ⟨ρ, hid, ho, vr, h⟩ => ?_
  rw [tst_cmp3] at h
  refine ⟨ρ, hid, ho, vr, POut.imp m1 (POut.bind1 gb h) fun v H1 ⟨t, fp, s, fr, ot, h2⟩ => ?_⟩
  refine ⟨ρ, hid, ho.grow s, vr.grow ho s, POut.imp m1 (POut.bind1 gb h2) fun w H2 ⟨u, fq, s2, fr2, ou, h3⟩ => ?_⟩
  have ho2 := (ho.grow s).grow s2
  have r1 := (ot.grow s2).shown ho2 (fun a ha => ho.fresh (fr a ha))
  have r2 := ou.seen (ho.grow s) s2 fr2
  refine ⟨hid, t.d, u.d, r1, r2, ?_⟩
  cases e : cmpD o t.d u.d with
  | no => rw [e] at h3; exact h3.elim
  | ex c fs => exact absurd e (nx_cmpD _ _ _ c fs)
  | ok k =>
    rw [e] at h3
    refine ⟨k, rfl, ?_⟩
    cases k with
    | false => exact ⟨false, rfl, (show Ob H2 false Q from h3) H2 (Ext.refl _)⟩
    | true =>
      refine ⟨ρ, hid, ho2, (vr.grow ho s).grow (ho.grow s) s2, POut.imp m1 (POut.bind1 gb (show POut X.K cl σ H2 hid W Ob (do
        let v ← r.ev G ρ
        cmpD o' u.d v.d) Q from h3)) fun z H3 ⟨v3, fp3, s3, fr3, ov, h4⟩ => ?_⟩
      exact ⟨hid, u.d, v3.d, r2.sub (hide_grow ho2 s3), ov.seen ho2 s3 fr3, bout_ob h4 (nx_cmpD _ _ _)⟩
theorem snd_notT {p : P} {a : Expr} {pos : Pos} (ha : PT X a (tPt X.K G cl W p)) : PT X (.UnaryOp .Not a pos) (tPt X.K G cl W (.notv p)) := by
  refine PT.mono (pt_not ha) fun σ H Q ⟨ρ, hid, ho, vr, h⟩ => ?_
  rw [tst_not] at h
  exact ⟨ρ, hid, ho, vr, POut.imp mb (POut.bindb gb h) fun b H1 ⟨s, h2⟩ => (show Ob H1 (!b) Q from h2) H1 (Ext.refl _)⟩
theorem PW.mono {e : Expr} {t t' : TT} (h : PW X e t) (k : ∀ σ H Q, t' σ H Q → t σ H Q) : PW X e t' := ⟨fun whole pins s σ H Q I q => h.run whole pins s σ H Q I (k σ H Q q)⟩
theorem snd_andT {p q : P} {a b : Expr} {rest : List Expr} {pos : Pos} (ha : PT X a (tPt X.K G cl W p)) (hb : PW X (.BoolOp .And (b :: rest) pos) (tPt X.K G cl W q)) : PW X (.BoolOp .And (a :: b :: rest) pos) (tPt X.K G cl W (.andv p q)) := by
  refine PW.mono (pw_and ha hb) fun σ H Q ⟨ρ, hid, ho, vr, h⟩ => ?_
  rw [tst_and] at h
  refine ⟨ρ, hid, ho, vr, POut.imp mb (POut.bindb gb h) fun b H1 ⟨s, h2⟩ => ?_⟩
  cases b with
  | true => exact ⟨ρ, hid, ho.grow s, vr.grow ho s, h2⟩
  | false => exact (show Ob H1 false Q from h2) H1 (Ext.refl _)
theorem snd_orT {p q : P} {a b : Expr} {rest : List Expr} {pos : Pos} (ha : PT X a (tPt X.K G cl W p)) (hb : PW X (.BoolOp .Or (b :: rest) pos) (tPt X.K G cl W q)) : PW X (.BoolOp .Or (a :: b :: rest) pos) (tPt X.K G cl W (.orv p q)) := by
  refine PW.mono (pw_or ha hb) fun σ H Q ⟨ρ, hid, ho, vr, h⟩ => ?_
  rw [tst_or] at h
  refine ⟨ρ, hid, ho, vr, POut.imp mb (POut.bindb gb h) fun b H1 ⟨s, h2⟩ => ?_⟩
  cases b with
  | false => exact ⟨ρ, hid, ho.grow s, vr.grow ho s, h2⟩
  | true => exact (show Ob H1 true Q from h2) H1 (Ext.refl _)

/-! ### comprehensions -/
theorem range_ok {lo hi : Int} {K : PySem.W.Frag} {k : IK} {σ : St} {H : Hp} {hid : List Addr} {R' : It → Hp → Prop} (hk : k ≠ .seq) (h : POut K cl σ H hid W (Oi K k hid) (rngD lo hi) R') :
    (-(2 ^ 62) ≤ lo ∧ lo < 2 ^ 62 ∧ -(2 ^ 62) ≤ hi ∧ hi < 2 ^ 62) ∧ R' (Itr lo (hi - lo).toNat) H := by
  have h : POut K cl σ H hid W (Oi K k hid) (if -(2 ^ 62) ≤ lo ∧ lo < 2 ^ 62 ∧ -(2 ^ 62) ≤ hi ∧ hi < 2 ^ 62 then .ok ((List.range (hi - lo).toNat).map fun (k : Nat) => .int (lo + (k : Int))) else .no) R' := h
  by_cases c : -(2 ^ 62) ≤ lo ∧ lo < 2 ^ 62 ∧ -(2 ^ 62) ≤ hi ∧ hi < 2 ^ 62
  · rw [if_pos c] at h
    exact ⟨c, (show Oi K k hid H _ R' from h) _ H (Ext.refl _) (by
      cases k with
      | seq => exact absurd rfl hk
      | rng1 => exact fun _ => itD_rng
      | rng2 => exact fun _ => itD_rng)⟩
  · rw [if_neg c] at h
    exact h.elim
theorem snd_rng1 {tg a : Expr} {its : List P} {q pos : Pos} (g : GX S G cl sc X W) (h1 : S.bt.contains ("range" : Str) = true) (h2 : glB sc ("range" : Str) = true) (hp : plainE a = true) (pa : PA X [a] (tPs X.K G cl W its)) : PI X tg (.Call (.Name ("range" : Str) q) [a] [] pos) (iG X.K G cl W .rng1 its) := by
  refine ⟨fun pins s σ H R' I h => (pi_range1 (tg := tg) (gl_of g.sc h2) (g.bt _ (mem_of h1)) pa (star_of hp [] X.env)).run pins s σ H R' I ?_⟩
  obtain ⟨ρ, hid, ho, vr, h⟩ := h
  refine ⟨ρ, hid, ho, vr, POut.imp ms (POut.binds gi h) fun vs H1 ⟨ts, fp, s, fr, o, h2⟩ => ?_⟩
  have r := o.seen ho s fr
  match ts, h2, r with
  | [], h2, _ => exact h2.elim
  | _ :: _ :: _, h2, _ => exact h2.elim
  | [t], h2, r =>
    have h2 : POut X.K cl σ H1 hid W (Oi X.K .rng1 hid) (match t.d with | .int j => rngD 0 j | _ => .no) R' := h2
    have r : Reps X.K (hide H1 hid) [t.d] vs := r
    cases e : t.d with
    | int j =>
      rw [e] at h2 r
      cases r with
      | cons r1 r2 =>
        cases r1
        cases r2
        obtain ⟨c, q⟩ := range_ok (by intro z; cases z) h2
        rw [Int.sub_zero] at q
        exact ⟨j, rfl, c.2.2.1, c.2.2.2, q⟩
    | _ =>
      rw [e] at h2
      exact h2.elim
theorem snd_rng2 {tg a b : Expr} {its : List P} {q pos : Pos} (g : GX S G cl sc X W) (h1 : S.bt.contains ("range" : Str) = true) (h2 : glB sc ("range" : Str) = true) (hp : plainE a = true) (hp2 : plainE b = true) (pa : PA X [a, b] (tPs X.K G cl W its)) :
    PI X tg (.Call (.Name ("range" : Str) q) [a, b] [] pos) (iG X.K G cl W .rng2 its) := by
  have e1 : starEach [a, b] X.env = [(false, eval a X.env), (false, eval b X.env)] := by
    rw [star_of hp, star_of hp2]
    rfl
  refine ⟨fun pins s σ H R' I h => (pi_range2 (tg := tg) (gl_of g.sc h2) (g.bt _ (mem_of h1)) pa e1 (star_of hp2 [] X.env)).run pins s σ H R' I ?_⟩
  obtain ⟨ρ, hid, ho, vr, h⟩ := h
  refine ⟨ρ, hid, ho, vr, POut.imp ms (POut.binds gi h) fun vs H1 ⟨ts, fp, s, fr, o, h2⟩ => ?_⟩
  have r := o.seen ho s fr
  match ts, h2, r with
  | [], h2, _ => exact h2.elim
  | [_], h2, _ => exact h2.elim
  | _ :: _ :: _ :: _, h2, _ => exact h2.elim
  | [t, u], h2, r =>
    have h2 : POut X.K cl σ H1 hid W (Oi X.K .rng2 hid) (match t.d, u.d with | .int i, .int j => rngD i j | _, _ => .no) R' := h2
    have r : Reps X.K (hide H1 hid) [t.d, u.d] vs := r
    cases e : t.d with
    | int i =>
      cases e2 : u.d with
      | int j =>
        rw [e, e2] at h2 r
        cases r with
        | cons r1 r2 =>
          cases r1
          cases r2 with
          | cons r3 r4 =>
            cases r3
            cases r4
            obtain ⟨c, q⟩ := range_ok (by intro z; cases z) h2
            exact ⟨i, j, rfl, c, q⟩
      | _ =>
        rw [e, e2] at h2
        exact h2.elim
    | _ =>
      rw [e] at h2
      exact h2.elim
theorem shut_ok {α : Type} {r : R α} {a : α} (h : r.shut = .ok a) : r = .ok a := by
  cases r with
  | ok b => exact h
  | no => cases h
  | ex c fs => cases h
theorem shut_nx {α : Type} (r : R α) : NoEx r.shut := fun c fs h => by
  cases r <;> cases h
theorem compL_cons {f : D → R (Option T)} {d : D} {ds : List D} {ts : List T} (h : compL f (d :: ds) = .ok ts) : ∃ o us, f d = .ok o ∧ compL f ds = .ok us ∧ ts = o.toList ++ us := by
  have h : (do
    let t ← f d
    let ts ← compL f ds
    match t with
    | some t => return t :: ts
    | none => return ts) = R.ok ts := h
  cases e : f d with
  | no => rw [e] at h; cases h
  | ex c fs => rw [e] at h; cases h
  | ok o =>
    rw [e] at h
    cases e2 : compL f ds with
    | no => rw [e2] at h; cases h
    | ex c fs => rw [e2] at h; cases h
    | ok us =>
      rw [e2] at h
      cases o with
      | none => cases h; exact ⟨none, _, rfl, rfl, rfl⟩
      | some t => cases h; exact ⟨some t, _, rfl, rfl, rfl⟩
theorem VR.set {K : PySem.W.Frag} {H : Hp} {hid : List Addr} {ρ : Rho} {σ : St} {i : Nat} {d : D} {v : V} (hn : G.hx = none) (vr : VR G cl K H hid ρ σ) (r : Rep K (hide H hid) d v) : VR G cl K H hid (ρ.set i (some (.fz d))) ((wipe σ [i]).set i (some v)) := by
  have e : (wipe σ [i]).set i (some v) = σ.set i (some v) := by
    show (σ.set i none).set i (some v) = _
    rw [List.set_set]
  rw [e]
  refine ⟨by rw [List.length_set, List.length_set]; exact vr.len, ⟨vr.x.tb, fun c fs e => by rw [hn] at e; cases e⟩, fun j t h => ?_⟩
  by_cases c : i = j
  · subst c
    have hi : i < ρ.length := by
      have := (List.getElem?_eq_some_iff.mp h).1
      rwa [List.length_set] at this
    rw [List.getElem?_set_self hi] at h
    cases h
    exact ⟨v, by rw [List.getElem?_set_self (by rw [← vr.len]; exact hi)], r⟩
  · rw [List.getElem?_set_ne c] at h
    obtain ⟨w, e1, e2⟩ := vr.get j t h
    exact ⟨w, by rw [List.getElem?_set_ne c]; exact e1, e2⟩
/-- a comprehension, by its meaning -/
theorem comp_post {elt : P} {i : Nat} {k : IK} {its cond : List P} {σ : St} {H : Hp} {Q : VK} (hn : G.hx = none) (h : tP X.K G cl W (.comp elt i k its cond) σ H Q) :
    tLc (iG X.K G cl W k its) (gName i) (tPts X.K G cl (fun _ _ _ _ => False) cond) (tP X.K G cl (fun _ _ _ _ => False) elt) [i] σ H Q := by
  obtain ⟨ρ, hid, ho, vr, h⟩ := h
  refine ⟨ρ, hid, ho, vr, ?_⟩
  have h : POut X.K cl σ H hid W (O1 X.K hid) (if G.calm then (do
      let ds ← itemsK k (← P.evs G its ρ)
      let ts ← compL (fun d => (do
        if ← P.tsts G cond (ρ.set i (some (.fz d))) then return some (← elt.ev G (ρ.set i (some (.fz d)))) else return none).shut) ds
      if ds.length ≤ sizeLine then .ok (.lst ts) else .no) else .no) Q := h
  by_cases cm : G.calm = true
  · rw [if_pos cm] at h
    rw [← bind_bind] at h
    cases e : (do itemsK k (← P.evs G its ρ) : R (List D)) with
    | no =>
      rw [e] at h
      exact h.elim
    | ex c fs =>
      rw [e] at h
      exact h
    | ok ds =>
      rw [e] at h
      have h : POut X.K cl σ H hid W (O1 X.K hid) (do
        let ts ← compL (fun d => (do
          if ← P.tsts G cond (ρ.set i (some (.fz d))) then return some (← elt.ev G (ρ.set i (some (.fz d)))) else return none).shut) ds
        if ds.length ≤ sizeLine then .ok (.lst ts) else .no) Q := h
      generalize hf : (fun d => (do
          if ← P.tsts G cond (ρ.set i (some (.fz d))) then return some (← elt.ev G (ρ.set i (some (.fz d)))) else return none : R (Option T)).shut) = f at h
      cases ec : compL f ds with
      | no => rw [ec] at h; exact h.elim
      | ex c fs =>
        exfalso
        have : ∀ (ds : List D), compL f ds ≠ .ex c fs := fun ds => by
          induction ds with
          | nil => intro z; cases z
          | cons d ds ih =>
            intro z
            have z : (do
              let t ← f d
              let ts ← compL f ds
              match t with
              | some t => return t :: ts
              | none => return ts) = R.ex c fs := z
            cases e1 : f d with
            | no => rw [e1] at z; cases z
            | ex c' fs' =>
              rw [← hf] at e1
              exact (shut_nx _ _ _ e1).elim
            | ok o =>
              rw [e1] at z
              cases e2 : compL f ds with
              | no => rw [e2] at z; cases z
              | ex c' fs' =>
                rw [e2] at z
                cases z
                exact ih e2
              | ok us =>
                rw [e2] at z
                cases o <;> cases z
        exact this ds ec
      | ok ts =>
        rw [ec] at h
        have h : POut X.K cl σ H hid W (O1 X.K hid) (if ds.length ≤ sizeLine then .ok (.lst ts) else .no) Q := h
        by_cases cz : ds.length ≤ sizeLine
        · rw [if_pos cz] at h
          have h : Out X.K H hid (.lst ts) Q := h
          intro J H1 s1 hJ Dd hD
          have hJ := hJ.it
          -- what stands between two turns
          refine ⟨fun j m H2 => j ≤ ds.length ∧ m = ds.length - j ∧ ∃ ts1 ts2 vs fp, Ext H1 H2 ∧ H2 Dd = some (.lst vs) ∧ (∀ a ∈ fp, H1 a = none ∧ a ≠ Dd) ∧ Owns X.K H2 (fp ++ (Dd :: hid)) ts1 vs fp ∧ ts = ts1 ++ ts2 ∧ compL f (ds.drop j) = .ok ts2 ∧ vs.length ≤ j,
            ⟨ds.length, Nat.zero_le _, rfl, [], ts, [], [], ?_, upd_same, (fun _ z => nomatch z), .nil, rfl, ec, Nat.le_refl _⟩, ?_⟩
          · exact sub_upd hD
          rintro j m H2 ⟨hj, rfl, ts1, ts2, vs, fp, k1, k2, k3, k4, k5, k6, k7⟩
          have hD1 : ∀ a o, H1 a = some o → KeepO H2 a o ∧ a ≠ Dd := fun a o e => ⟨k1 a o e, ne_of_none e hD⟩
          have hSub : Ext H1 H2 := k1
          -- all that is hidden meanwhile
          have hoB : HidOk H2 (fp ++ (Dd :: hid)) := fun a ha => by
            rcases List.mem_append.mp ha with z | z
            · exact k4.lists a z
            · rcases List.mem_cons.mp z with z | z
              · rw [z]; exact ⟨_, k2, rfl⟩
              · exact ((ho.grow s1).grow hSub) a z
          have vis : Sub (hide H1 hid) (hide H2 (fp ++ (Dd :: hid))) := hide_mono fun a o n e => ⟨(hD1 a o e).1, fun z => by
            rcases List.mem_append.mp z with z | z
            · have := (k3 a z).1
              rw [e] at this
              cases this
            · rcases List.mem_cons.mp z with z | z
              · exact (hD1 a o e).2 z
              · exact n z⟩
          have visB : Sub (hide H1 hid) H2 := vis.trans (hide_sub _ _)
          by_cases hlt : j < ds.length
          · have ej : ds[j]? = some ds[j] := List.getElem?_eq_getElem hlt
            obtain ⟨g1', g2'⟩ := hJ.go j H2 ds[j] visB ej
            refine .inr ⟨g1', fun H3 => j + 1 ≤ ds.length ∧ ∃ ts1 ts2 vs fp, Ext H1 H3 ∧ H3 Dd = some (.lst vs) ∧ (∀ a ∈ fp, H1 a = none ∧ a ≠ Dd) ∧ Owns X.K H3 (fp ++ (Dd :: hid)) ts1 vs fp ∧ ts = ts1 ++ ts2 ∧ compL f (ds.drop (j + 1)) = .ok ts2 ∧ vs.length ≤ j + 1,
              fun H3 ⟨z1, z2⟩ => ⟨ds.length - (j + 1), by omega, z1, rfl, z2⟩, fun x H3 y => ?_⟩
            obtain ⟨e3, r3⟩ := g2' x H3 y
            subst e3
            have ed : ds.drop j = ds[j] :: ds.drop (j + 1) := List.drop_eq_getElem_cons hlt
            rw [ed] at k6
            obtain ⟨o, us, f1, f2, f3⟩ := compL_cons k6
            rw [← hf] at f1
            have f1 := shut_ok f1
            have vr2 : VR G cl X.K H3 (fp ++ (Dd :: hid)) (ρ.set i (some (.fz ds[j]))) ((wipe σ [i]).set i (some x)) :=
              VR.set hn ⟨vr.len, ⟨hSub.tabs (s1.tabs vr.x.tb), fun c fs e => by rw [hn] at e; cases e⟩, fun i t e => by
                obtain ⟨w, a1, a2⟩ := vr.get i t e
                exact ⟨w, a1, (a2.sub (hide_grow ho s1)).sub vis⟩⟩ (r3.sub vis)
            refine ⟨?_, ?_⟩
            · show wipe ((wipe σ [i]).set i (some x)) [i] = wipe σ [i]
              show (((σ.set i none).set i (some x)).set i none) = σ.set i none
              rw [List.set_set, List.set_set]
            refine ⟨_, _, hoB, vr2, ?_⟩
            cases et : P.tsts G cond (ρ.set i (some (.fz ds[j]))) with
            | no => rw [et] at f1; cases f1
            | ex c fs => rw [et] at f1; cases f1
            | ok b =>
              rw [et] at f1
              intro H4 s4
              have keepD : ∀ {H5 : Hp}, Ext H3 H5 → Ext H1 H5 := fun s5 => k1.trans s5
              cases b with
              | false =>
                cases f1
                have f3 : ts2 = us := by simpa using f3
                subst f3
                exact ⟨hlt, ts1, ts2, vs, fp, keepD s4, s4 _ _ k2, k3, k4.grow s4, k5, f2, Nat.le_succ_of_le k7⟩
              | true =>
                have f1 : (do return some (← elt.ev G (ρ.set i (some (.fz ds[j])))) : R (Option T)) = .ok o := f1
                refine ⟨_, _, hoB.grow s4, vr2.grow hoB s4, ?_⟩
                cases ee : elt.ev G (ρ.set i (some (.fz ds[j]))) with
                | no => rw [ee] at f1; cases f1
                | ex c fs => rw [ee] at f1; cases f1
                | ok t =>
                  rw [ee] at f1
                  cases f1
                  intro v H5 fq s5 fr5 o5
                  have s35 := s4.trans s5
                  have k2' : H5 Dd = some (.lst vs) := s35 _ _ k2
                  refine ⟨vs, k2', by omega, hlt, ts1 ++ [t], us, vs ++ [v], fp ++ (fq ++ []), ?_, upd_same, ?_, ?_, ?_, f2, ?_⟩
                  · exact (k1.trans s35).updL hD k2'
                  · intro a ha
                    have ndq : ∀ a ∈ fq, H3 a = none := fun a ha => none_sub s4 (fr5 a ha)
                    rcases List.mem_append.mp ha with z | z
                    · exact k3 a z
                    · have z : a ∈ fq := by simpa using z
                      refine ⟨none_sub hSub (ndq a z), fun e => ?_⟩
                      have := ndq a z
                      rw [e, k2] at this
                      cases this
                  · have ndq : ∀ a ∈ fq, H3 a = none := fun a ha => none_sub s4 (fr5 a ha)
                    have nq : ∀ a ∈ fq, a ≠ Dd := fun a ha e => by
                      have := ndq a ha
                      rw [e, k2] at this
                      cases this
                    refine Owns.append (k4.keep ⟨hide_mono fun a u n e => ?_, fun a ha u e => ?_, fun a xs e => ?_⟩) (.cons (o5.keep ⟨hide_mono fun a u n e => ?_, fun a ha u e => ?_, fun a xs e => ?_⟩) .nil fun _ _ z => nomatch z) fun a ha z => ?_
                    · have n1 : a ≠ Dd := fun z => n (by simp [z])
                      refine ⟨(s35 a u e).eq (upd_ne n1), fun z => ?_⟩
                      simp only [List.append_nil, List.mem_append, List.mem_cons] at z n
                      rcases z with (z | z) | z
                      · exact n (.inl z)
                      · have := ndq a z
                        rw [e] at this
                        cases this
                      · exact n (.inr z)
                    · exact (s35 a u e).eq (upd_ne (k3 a ha).2)
                    · rw [upd_ne (ne_of e k2 (by intro z; cases z))]
                      exact s35 a _ e
                    · have n1 : a ≠ Dd := fun z => n (by simp [z])
                      refine ⟨KeepO.of (by rw [upd_ne n1]; exact e), fun z => ?_⟩
                      simp only [List.append_nil, List.mem_append, List.mem_cons] at z n
                      rcases z with (z | z) | z
                      · exact n (.inr (.inl z))
                      · exact n (.inl z)
                      · exact n (.inr (.inr z))
                    · exact KeepO.of (by rw [upd_ne (nq a ha)]; exact e)
                    · rw [upd_ne (ne_of e k2' (by intro z; cases z))]
                      exact e
                    · have z : a ∈ fq := by simpa using z
                      obtain ⟨u, e, _⟩ := k4.lists a ha
                      have := ndq a z
                      rw [e] at this
                      cases this
                  · rw [k5, f3]
                    simp
                  · simp
                    omega
          · have ej : j = ds.length := by omega
            subst ej
            refine .inl ⟨hJ.stop _ H2 visB (Nat.le_refl _), ?_⟩
            rw [List.drop_length] at k6
            cases k6
            rw [List.append_nil] at k5
            subst k5
            have nD : Dd ∉ fp := fun z => (k3 Dd z).2 rfl
            refine h _ H2 (Dd :: fp) (s1.trans hSub) (fun a ha => ?_) (.lst k2 nD (k4.keep ⟨hide_less fun a ha => ?_, fun a _ o e => KeepO.of e, fun a xs e => e⟩))
            · rcases List.mem_cons.mp ha with z | z
              · rw [z]; exact none_sub s1 hD
              · exact none_sub s1 (k3 a z).1
            · simp only [List.cons_append, List.mem_cons, List.mem_append] at ha ⊢
              rcases ha with ha | ha | ha
              · exact .inr (.inl ha)
              · exact .inl ha
              · exact .inr (.inr ha)
        · rw [if_neg cz] at h
          exact h.elim
  · rw [if_neg cm] at h
    exact h.elim
end
end Gn

set_option Elab.async false
set_option linter.all false
set_option maxRecDepth 100000
set_option maxHeartbeats 4000000
namespace Gn
open PySem PySem.Spec PyProof.Rows L2
variable [Tbls]

section
variable {S : Sx} {G : Gam} {cl : Cl}
theorem pg_own {X : Cx} {scope : Scope} {s : Shared} {H : Hp} {C : Addr} {c : List (Str × Addr)} {fp : List Addr} {i : Nat} {x : Str} {px : Pos} (nd : X.N.Nodup) (h1 : X.N[i]? = some x) (h3 : locB scope x = true) : PG (X.blk s H scope (compEnvC scope c C X.env) fp) (.Name x px) (gName i) := by
  unfold locB at h3
  split at h3
  · rename_i q
    have lx : (PySem.relabel scope X.env).names.lookup x = some .local := (Agr.relabel scope X.env).loc x q
    exact pg_name nd h1 (.inl lx) (.inr lx)
  · rename_i q
    have lx : (PySem.relabel scope X.env).names.lookup x = some .cell := (Agr.relabel scope X.env).cel x q
    refine pg_name nd h1 (.inr lx) (.inl ?_)
    show (scope.names.lookup x == some .cell) = true
    rw [q]
    rfl
  · cases h3
/-- the parts of a comprehension's check -/
theorem comp_sound {elt : P} {i : Nat} {k : IK} {its cond : List P} {sc scope : Scope} {X : Cx} {W : WX} {e a : Expr} {ifs : List Expr} {x : Str} {px pos : Pos} (g : GX S G cl sc X W) (hh : S.hot = false) (h1 : S.N[i]? = some x) (h2 : blkC S.N sc scope [(x, i)] = true) (h3 : locB scope x = true) (hf : ∀ x, foldedSetIterable a X.env x = pure x)
    (hi : PI X (.Name x px) a (iG X.K G cl W k its))
    (he : ∀ X', GX S G cl scope X' (fun _ _ _ _ => False) → PE X' e (tP X'.K G cl (fun _ _ _ _ => False) elt)) (hc : ∀ X', GX S G cl scope X' (fun _ _ _ _ => False) → PTs X' ifs (tPts X'.K G cl (fun _ _ _ _ => False) cond)) :
    PE X (.ListComp e [⟨.Name x px, a, ifs, 0⟩] scope pos) (tP X.K G cl W (.comp elt i k its cond)) := by
  have blk : BlkOk X.N X.env.scope scope [(x, i)] := by
    have b := blkOk_by h2
    refine ⟨b.kind, b.uniq, by rw [g.N]; exact b.ix, fun y hy e => ?_, by rw [g.N]; exact b.own⟩
    rcases b.free y hy e with z | z
    · exact .inl (g.sc.cel _ z)
    · exact g.sc.fre _ z
  refine PE.mono (pe_lc (g := gName i) (g.calm hh) g.nd hi blk (fun s H C c fp => ?_) (fun s H C c fp => hc _ (g.blk hh s H C c fp)) (fun s H C c fp => he _ (g.blk hh s H C c fp)) hf) fun σ H Q h => comp_post (g.cold hh) h
  exact pg_own g.nd (by rw [g.N]; exact h1) h3
theorem tsts_nil {X : Cx} {W : WX} : PTs X [] (tPts X.K G cl W []) := PTs.mono pts_nil fun σ H Q ⟨ρ, hid, ho, vr, h⟩ => (show Ob H true Q from h) H (Ext.refl _)
theorem tsts_one {X : Cx} {W : WX} {p : P} {e : Expr} (h : PT X e (tPt X.K G cl W p)) : PTs X [e] (tPts X.K G cl W [p]) := by
  refine PTs.mono (pts_one h) fun σ H Q ⟨ρ, hid, ho, vr, h⟩ => ⟨ρ, hid, ho, vr, ?_⟩
  have h : POut X.K cl σ H hid W Ob (do
    let t ← p.ev G ρ
    if ← truD t.d then P.tsts G [] ρ else .ok false) Q := h
  have e : (do
    let t ← p.ev G ρ
    if ← truD t.d then P.tsts G [] ρ else .ok false : R Bool) = p.tst G ρ := by
    show _ = (do truD (← p.ev G ρ).d : R Bool)
    cases p.ev G ρ with
    | no => rfl
    | ex c fs => rfl
    | ok t =>
      simp only [R.ok_bind]
      cases e : truD t.d with
      | no => rfl
      | ex c fs => rfl
      | ok b => cases b <;> rfl
  rw [e] at h
  exact h
theorem iter_seq {sc : Scope} {e : Expr} {es : List Expr} (h : iterArgs S sc .seq e = some es) : plainE e = true ∧ es = [e] := by
  have h : (if plainE e then some [e] else none) = some es := h
  by_cases c : plainE e = true
  · rw [if_pos c] at h
    cases h
    exact ⟨c, rfl⟩
  · rw [if_neg c] at h
    cases h
theorem rng_name {sc : Scope} {x : Str} {l es : List Expr} (h : (if decide (x = ("range" : Str)) && S.bt.contains x && glB sc x then some l else none) = some es) : x = ("range" : Str) ∧ S.bt.contains ("range" : Str) = true ∧ glB sc ("range" : Str) = true ∧ l = es := by
  by_cases c : (decide (x = ("range" : Str)) && S.bt.contains x && glB sc x) = true
  · rw [if_pos c] at h
    cases h
    obtain ⟨c1, c2⟩ := b2 c
    obtain ⟨c3, c4⟩ := b2 c1
    have e := of_decide_eq_true c3
    subst e
    exact ⟨rfl, c4, c2, rfl⟩
  · rw [if_neg c] at h
    cases h
theorem iter_rng1 {sc : Scope} {e : Expr} {es : List Expr} (h : iterArgs S sc .rng1 e = some es) : ∃ p1 a p2, e = .Call (.Name ("range" : Str) p1) [a] [] p2 ∧ S.bt.contains ("range" : Str) = true ∧ glB sc ("range" : Str) = true ∧ es = [a] := by
  cases e with
  | Call f args kws pos =>
    cases f with
    | Name x p1 =>
      match args, kws, h with
      | [a], [], h =>
        obtain ⟨rfl, h1, h2, h3⟩ := rng_name (l := [a]) h
        exact ⟨p1, a, pos, rfl, h1, h2, h3.symm⟩
      | [], _, h => cases h
      | [_], _ :: _, h => cases h
      | _ :: _ :: _, _, h => cases h
    | _ => cases h
  | _ => cases h
theorem iter_rng2 {sc : Scope} {e : Expr} {es : List Expr} (h : iterArgs S sc .rng2 e = some es) : ∃ p1 a b p2, e = .Call (.Name ("range" : Str) p1) [a, b] [] p2 ∧ S.bt.contains ("range" : Str) = true ∧ glB sc ("range" : Str) = true ∧ es = [a, b] := by
  cases e with
  | Call f args kws pos =>
    cases f with
    | Name x p1 =>
      match args, kws, h with
      | [a, b], [], h =>
        obtain ⟨rfl, h1, h2, h3⟩ := rng_name (l := [a, b]) h
        exact ⟨p1, a, b, pos, rfl, h1, h2, h3.symm⟩
      | [], _, h => cases h
      | [_], _, h => cases h
      | [_, _], _ :: _, h => cases h
      | _ :: _ :: _ :: _, _, h => cases h
    | _ => cases h
  | _ => cases h
theorem rv_chk {p : P} {sc : Scope} {a b : Expr} {pos : Pos} (h : (P.rv p).chk S sc (.Subscript a b pos) = true) : ∃ k p1 p2 p3, b = .Slice none none (some (.UnaryOp .USub (.Constant (.int 1) k p1) p2)) p3 ∧ p.chk S sc a = true := by
  unfold P.chk at h
  split at h <;> first | (exfalso; contradiction) | skip
  rename_i e1 e2
  cases e1
  cases e2
  exact ⟨_, _, _, _, rfl, h⟩
theorem hcall_chk {k : Nat} {p : P} {sc : Scope} {e : Expr} (h : (P.hcall k p).chk S sc e = true) : ∃ f p1 e1 pos, e = .Call (.Name f p1) [e1] [] pos ∧ (decide (S.hnn[k]? = some f) && (glB sc f && (okName f && (plainE e1 && p.chk S sc e1)))) = true := by
  unfold P.chk at h
  split at h <;> first | (exfalso; contradiction) | skip
  rename_i e1
  cases e1
  exact ⟨_, _, _, _, rfl, h⟩
theorem upper_chk {p : P} {sc : Scope} {e : Expr} (h : (P.upper p).chk S sc e = true) : ∃ o x ap cp, e = .Call (.Attribute o x ap) [] [] cp ∧ (decide (x = ("upper" : Str)) && (attrB o && ((ap.endLine == cp.line) && p.chk S sc o))) = true := by
  unfold P.chk at h
  split at h <;> first | (exfalso; contradiction) | skip
  rename_i e1
  cases e1
  exact ⟨_, _, _, _, rfl, h⟩
theorem sset_chk {p : P} {sc : Scope} {e : Expr} (h : (P.sset p).chk S sc e = true) : ∃ x y p1 p2 p3 pos a, e = .Call (.Name x p1) [.Call (.Name y p2) [a] [] p3] [] pos ∧ (!S.hot && (decide (x = ("sorted" : Str)) && (decide (y = ("set" : Str)) && (S.bt.contains x && (S.bt.contains y && (glB sc x && (glB sc y && (plainE a && p.chk S sc a)))))))) = true := by
  unfold P.chk at h
  split at h <;> first | (exfalso; contradiction) | skip
  rename_i e1
  cases e1
  exact ⟨_, _, _, _, _, _, _, rfl, h⟩
theorem lset_chk {p : P} {sc : Scope} {e : Expr} (h : (P.lset p).chk S sc e = true) : ∃ x y p1 p2 p3 pos a, e = .Call (.Name x p1) [.Call (.Name y p2) [a] [] p3] [] pos ∧ (!S.hot && (decide (x = ("len" : Str)) && (decide (y = ("set" : Str)) && (S.bt.contains x && (S.bt.contains y && (glB sc x && (glB sc y && (plainE a && p.chk S sc a)))))))) = true := by
  unfold P.chk at h
  split at h <;> first | (exfalso; contradiction) | skip
  rename_i e1
  cases e1
  exact ⟨_, _, _, _, _, _, _, rfl, h⟩
theorem lrev_chk {p : P} {sc : Scope} {e : Expr} (h : (P.lrev p).chk S sc e = true) : ∃ x y p1 p2 p3 pos a, e = .Call (.Name x p1) [.Call (.Name y p2) [a] [] p3] [] pos ∧ (!S.hot && (decide (x = ("list" : Str)) && (decide (y = ("reversed" : Str)) && (S.bt.contains x && (S.bt.contains y && (glB sc x && (glB sc y && (plainE a && p.chk S sc a)))))))) = true := by
  unfold P.chk at h
  split at h <;> first | (exfalso; contradiction) | skip
  rename_i e1
  cases e1
  exact ⟨_, _, _, _, _, _, _, rfl, h⟩
theorem maxk_chk {p : P} {i : Nat} {q : Ky} {sc : Scope} {e : Expr} (h : (P.maxk p i q).chk S sc e = true) : ∃ x p1 a nm params body lsc lp kp pos, e = .Call (.Name x p1) [a] [⟨nm, .Lambda params body lsc lp, kp⟩] pos ∧
    (!S.hot && (S.lam && (decide (x = ("max" : Str)) && (decide (nm = some ("key" : Str)) && (S.bt.contains x && (glB sc x && (plainE a && (p.chk S sc a && lamB S.N sc i q params body lsc)))))))) = true := by
  unfold P.chk at h
  split at h <;> first | (exfalso; contradiction) | skip
  rename_i e1
  cases e1
  exact ⟨_, _, _, _, _, _, _, _, _, _, rfl, h⟩
theorem srtl_chk {p : P} {i : Nat} {q : Ky} {sc : Scope} {e : Expr} (h : (P.srtl p i q).chk S sc e = true) : ∃ x p1 a nm params body lsc lp kp pos, e = .Call (.Name x p1) [a] [⟨nm, .Lambda params body lsc lp, kp⟩] pos ∧
    (!S.hot && (S.lam && (decide (x = ("sorted" : Str)) && (decide (nm = some ("key" : Str)) && (S.bt.contains x && (glB sc x && (plainE a && (p.chk S sc a && lamB S.N sc i q params body lsc)))))))) = true := by
  unfold P.chk at h
  split at h <;> first | (exfalso; contradiction) | skip
  rename_i e1
  cases e1
  exact ⟨_, _, _, _, _, _, _, _, _, _, rfl, h⟩
theorem srtr_chk {p : P} {i : Nat} {q : Ky} {sc : Scope} {e : Expr} (h : (P.srtr p i q).chk S sc e = true) : ∃ x p1 y p2 a p3 nm params body lsc lp kp pos, e = .Call (.Name x p1) [.Call (.Name y p2) [a] [] p3] [⟨nm, .Lambda params body lsc lp, kp⟩] pos ∧
    (!S.hot && (S.lam && (decide (x = ("sorted" : Str)) && (decide (nm = some ("key" : Str)) && (S.bt.contains x && (glB sc x && (decide (y = ("range" : Str)) && (S.bt.contains y && (glB sc y && (plainE a && (p.chk S sc a && lamB S.N sc i q params body lsc))))))))))) = true := by
  unfold P.chk at h
  split at h <;> first | (exfalso; contradiction) | skip
  rename_i e1
  cases e1
  exact ⟨_, _, _, _, _, _, _, _, _, _, _, _, _, rfl, h⟩
theorem lrng_chk {p : P} {sc : Scope} {e : Expr} (h : (P.lrng p).chk S sc e = true) : ∃ x y p1 p2 p3 pos a, e = .Call (.Name x p1) [.Call (.Name y p2) [a] [] p3] [] pos ∧ (!S.hot && (decide (x = ("list" : Str)) && (decide (y = ("range" : Str)) && (S.bt.contains x && (S.bt.contains y && (glB sc x && (glB sc y && (plainE a && p.chk S sc a)))))))) = true := by
  unfold P.chk at h
  split at h <;> first | (exfalso; contradiction) | skip
  rename_i e1
  cases e1
  exact ⟨_, _, _, _, _, _, _, rfl, h⟩
/-- all that a term tells of an expression -/
structure Sd (S : Sx) (G : Gam) (cl : Cl) (p : P) : Prop where
  pe : ∀ {sc : Scope} {X : Cx} {W : WX} {e : Expr}, GX S G cl sc X W → p.chk S sc e = true → PE X e (tP X.K G cl W p)
  pt : ∀ {sc : Scope} {X : Cx} {W : WX} {e : Expr}, GX S G cl sc X W → p.chk S sc e = true → PT X e (tPt X.K G cl W p)
  pw : ∀ {sc : Scope} {X : Cx} {W : WX} {op : BoolOp} {es : List Expr} {pos : Pos}, GX S G cl sc X W → p.chk S sc (.BoolOp op es pos) = true → PW X (.BoolOp op es pos) (tPt X.K G cl W p)
theorem sdOwn {p : P} (pe : ∀ {sc : Scope} {X : Cx} {W : WX} {e : Expr}, GX S G cl sc X W → p.chk S sc e = true → PE X e (tP X.K G cl W p)) (own : ∀ {sc : Scope} {e : Expr}, p.chk S sc e = true → ownT e = true) : Sd S G cl p :=
  ⟨pe, fun g h => snd_own (own h) (pe g h), fun g h => cfalse (own h)⟩
theorem sdOwn2 {p : P} (pe : ∀ {sc : Scope} {X : Cx} {W : WX} {e : Expr}, GX S G cl sc X W → p.chk S sc e = true → PE X e (tP X.K G cl W p)) (pt : ∀ {sc : Scope} {X : Cx} {W : WX} {e : Expr}, GX S G cl sc X W → p.chk S sc e = true → PT X e (tPt X.K G cl W p))
    (nb : ∀ {sc : Scope} {op : BoolOp} {es : List Expr} {pos : Pos}, p.chk S sc (.BoolOp op es pos) = true → False) : Sd S G cl p := ⟨pe, pt, fun g h => (nb h).elim⟩
theorem sdBool {p : P} (pe : ∀ {sc : Scope} {X : Cx} {W : WX} {e : Expr}, GX S G cl sc X W → p.chk S sc e = true → PE X e (tP X.K G cl W p)) (pw : ∀ {sc : Scope} {X : Cx} {W : WX} {op : BoolOp} {es : List Expr} {pos : Pos}, GX S G cl sc X W → p.chk S sc (.BoolOp op es pos) = true → PW X (.BoolOp op es pos) (tPt X.K G cl W p))
    (sh : ∀ {sc : Scope} {e : Expr}, p.chk S sc e = true → ∃ op es pos, e = .BoolOp op es pos) : Sd S G cl p := ⟨pe, fun g h => by
    obtain ⟨op, es, pos, rfl⟩ := sh h
    exact (pw g h).pt, pw⟩
mutual
theorem P.sd : ∀ (p : P), Sd S G cl p
  | .cst d => sdOwn (fun {sc X W e} g h => by
      cases e with
      | Constant c k pos =>
        obtain ⟨v, h1, h2⟩ := cst_rep (K := X.K) (H := fun _ => none) (X := X) (k := k) (pos := pos) (show cstB d c = true from h)
        exact PE.mono h1 fun σ H Q ⟨ρ, hid, ho, vr, q⟩ => Out.fz (out_of q) (h2 _ _)
      | _ => exact cfalse h) (fun {sc e} h => by cases e <;> first | rfl | exact cfalse h | (rename_i op _ _; cases op <;> first | rfl | exact cfalse h))
  | .var i => sdOwn (fun {sc X W e} g h => by
      cases e with
      | Name x pos => exact snd_var g h
      | _ => exact cfalse h) (fun {sc e} h => by cases e <;> first | rfl | exact cfalse h | (rename_i op _ _; cases op <;> first | rfl | exact cfalse h))
  | .glob j => sdOwn (fun {sc X W e} g h => by
      cases e with
      | Name x pos => exact snd_glob g h
      | _ => exact cfalse h) (fun {sc e} h => by cases e <;> first | rfl | exact cfalse h | (rename_i op _ _; cases op <;> first | rfl | exact cfalse h))
  | .bin o p q => sdOwn (fun {sc X W e} g h => by
      cases e with
      | BinOp a op b pos =>
        obtain ⟨h1, h2⟩ := b2 (show (decide (op = o.op) && (p.chk S sc a && q.chk S sc b)) = true from h)
        obtain ⟨h3, h4⟩ := b2 h2
        have e := of_decide_eq_true h1
        subst e
        exact snd_bin ((P.sd p).pe g h3) ((P.sd q).pe g h4)
      | _ => exact cfalse h) (fun {sc e} h => by cases e <;> first | rfl | exact cfalse h | (rename_i op _ _; cases op <;> first | rfl | exact cfalse h))
  | .neg p => sdOwn (fun {sc X W e} g h => by
      cases e with
      | UnaryOp op a pos =>
        cases op with
        | USub => exact snd_neg ((P.sd p).pe g h)
        | _ => exact cfalse h
      | _ => exact cfalse h) (fun {sc e} h => by cases e <;> first | rfl | exact cfalse h | (rename_i op _ _; cases op <;> first | rfl | exact cfalse h))
  | .cmp o p q => sdOwn2 (fun {sc X W e} g h => by
      cases e with
      | Compare a ops bs pos =>
        match ops, bs, h with
        | [op], [b], h =>
          obtain ⟨h1, h2⟩ := b2 (show (decide (op = o.op) && plainE b && (p.chk S sc a && q.chk S sc b)) = true from h)
          obtain ⟨h3, h4⟩ := b2 h2
          obtain ⟨h5, h6⟩ := b2 h1
          have e := of_decide_eq_true h5
          subst e
          exact snd_cmp g h6 ((P.sd p).pe g h3) ((P.sd q).pe g h4)
        | [], _, h => exact cfalse h
        | [_], [], h => exact cfalse h
        | [_], _ :: _ :: _, h => exact cfalse h
        | _ :: _ :: _, _, h => exact cfalse h
      | _ => exact cfalse h) (
    fun {sc X W e} g h => by
      cases e with
      | Compare a ops bs pos =>
        match ops, bs, h with
        | [op], [b], h =>
          obtain ⟨h1, h2⟩ := b2 (show (decide (op = o.op) && plainE b && (p.chk S sc a && q.chk S sc b)) = true from h)
          obtain ⟨h3, h4⟩ := b2 h2
          obtain ⟨h5, h6⟩ := b2 h1
          have e := of_decide_eq_true h5
          subst e
          exact snd_cmpT g h6 ((P.sd p).pe g h3) ((P.sd q).pe g h4)
        | [], _, h => exact cfalse h
        | [_], [], h => exact cfalse h
        | [_], _ :: _ :: _, h => exact cfalse h
        | _ :: _ :: _, _, h => exact cfalse h
      | _ => exact cfalse h) (fun h => cfalse h)
  | .andv p q => sdBool (fun {sc X W e} g h => by
      cases e with
      | BoolOp op vs pos =>
        cases op with
        | And =>
          match vs, h with
          | [a, b], h =>
            obtain ⟨h3, h4⟩ := b2 (show (p.chk S sc a && q.chk S sc b) = true from h)
            exact snd_and ((P.sd p).pe g h3) (pe_one ((P.sd q).pe g h4))
          | a :: b :: c :: rest, h =>
            obtain ⟨h3, h4⟩ := b2 (show (p.chk S sc a && q.chk S sc (.BoolOp .And (b :: c :: rest) pos)) = true from h)
            exact snd_and ((P.sd p).pe g h3) ((P.sd q).pe g h4)
          | [], h => exact cfalse h
          | [_], h => exact cfalse h
        | Or => exact cfalse h
      | _ => exact cfalse h) (fun {sc X W op vs pos} g h => by
      cases op with
      | And =>
        match vs, h with
        | [a, b], h =>
          obtain ⟨h3, h4⟩ := b2 (show (p.chk S sc a && q.chk S sc b) = true from h)
          exact snd_andT ((P.sd p).pt g h3) (pw_and1 ((P.sd q).pt g h4))
        | a :: b :: c :: rest, h =>
          obtain ⟨h3, h4⟩ := b2 (show (p.chk S sc a && q.chk S sc (.BoolOp .And (b :: c :: rest) pos)) = true from h)
          exact snd_andT ((P.sd p).pt g h3) ((P.sd q).pw g h4)
        | [], h => exact cfalse h
        | [_], h => exact cfalse h
      | Or => exact cfalse h) (fun {sc e} h => by cases e <;> first | exact ⟨_, _, _, rfl⟩ | exact cfalse h)
  | .orv p q => sdBool (fun {sc X W e} g h => by
      cases e with
      | BoolOp op vs pos =>
        cases op with
        | Or =>
          match vs, h with
          | [a, b], h =>
            obtain ⟨h3, h4⟩ := b2 (show (p.chk S sc a && q.chk S sc b) = true from h)
            exact snd_or ((P.sd p).pe g h3) (pe_one ((P.sd q).pe g h4))
          | a :: b :: c :: rest, h =>
            obtain ⟨h3, h4⟩ := b2 (show (p.chk S sc a && q.chk S sc (.BoolOp .Or (b :: c :: rest) pos)) = true from h)
            exact snd_or ((P.sd p).pe g h3) ((P.sd q).pe g h4)
          | [], h => exact cfalse h
          | [_], h => exact cfalse h
        | And => exact cfalse h
      | _ => exact cfalse h) (fun {sc X W op vs pos} g h => by
      cases op with
      | Or =>
        match vs, h with
        | [a, b], h =>
          obtain ⟨h3, h4⟩ := b2 (show (p.chk S sc a && q.chk S sc b) = true from h)
          exact snd_orT ((P.sd p).pt g h3) (pw_or1 ((P.sd q).pt g h4))
        | a :: b :: c :: rest, h =>
          obtain ⟨h3, h4⟩ := b2 (show (p.chk S sc a && q.chk S sc (.BoolOp .Or (b :: c :: rest) pos)) = true from h)
          exact snd_orT ((P.sd p).pt g h3) ((P.sd q).pw g h4)
        | [], h => exact cfalse h
        | [_], h => exact cfalse h
      | And => exact cfalse h) (fun {sc e} h => by cases e <;> first | exact ⟨_, _, _, rfl⟩ | exact cfalse h)
  | .notv p => sdOwn2 (fun {sc X W e} g h => by
      cases e with
      | UnaryOp op a pos =>
        cases op with
        | Not => exact snd_not ((P.sd p).pe g h)
        | _ => exact cfalse h
      | _ => exact cfalse h) (
    fun {sc X W e} g h => by
      cases e with
      | UnaryOp op a pos =>
        cases op with
        | Not => exact snd_notT ((P.sd p).pt g h)
        | _ => exact cfalse h
      | _ => exact cfalse h) (fun h => cfalse h)
  | .idx p q => sdOwn (fun {sc X W e} g h => by
      cases e with
      | Subscript a b pos =>
        obtain ⟨h1, h2⟩ := b2 (show (plainE b && (p.chk S sc a && q.chk S sc b)) = true from h)
        obtain ⟨h3, h4⟩ := b2 h2
        exact snd_idx h1 ((P.sd p).pe g h3) ((P.sd q).pe g h4)
      | _ => exact cfalse h) (fun {sc e} h => by cases e <;> first | rfl | exact cfalse h | (rename_i op _ _; cases op <;> first | rfl | exact cfalse h))
  | .sl p lo hi => sdOwn (fun {sc X W e} g h => by
      cases e with
      | Subscript a b pos =>
        cases b with
        | Slice l u st p2 =>
          cases st with
          | none =>
            obtain ⟨h1, h2⟩ := b2 (show (p.chk S sc a && (P.chkO S lo sc l && P.chkO S hi sc u)) = true from h)
            obtain ⟨h3, h4⟩ := b2 h2
            exact snd_sl ((P.sd p).pe g h1) (P.soundO lo g h3) (P.soundO hi g h4)
          | some _ => exact cfalse h
        | _ => exact cfalse h
      | _ => exact cfalse h) (fun {sc e} h => by cases e <;> first | rfl | exact cfalse h | (rename_i op _ _; cases op <;> first | rfl | exact cfalse h))
  | .lst ps => sdOwn (fun {sc X W e} g h => by
      cases e with
      | List es pos =>
        obtain ⟨h1, h2⟩ := b2 (show (decide (es.length ≤ 1000) && P.chks S ps sc es) = true from h)
        exact snd_lst (by rw [← chks_len h2]; exact of_decide_eq_true h1) (P.sounds ps g h2)
      | _ => exact cfalse h) (fun {sc e} h => by cases e <;> first | rfl | exact cfalse h | (rename_i op _ _; cases op <;> first | rfl | exact cfalse h))
  | .tup ps => sdOwn (fun {sc X W e} g h => by
      cases e with
      | Tuple es k pos =>
        obtain ⟨h1, h2⟩ := b2 (show (decide (es.length ≤ 1000) && P.chks S ps sc es) = true from h)
        exact snd_tup (by rw [← chks_len h2]; exact of_decide_eq_true h1) (P.sounds ps g h2)
      | _ => exact cfalse h) (fun {sc e} h => by cases e <;> first | rfl | exact cfalse h | (rename_i op _ _; cases op <;> first | rfl | exact cfalse h))
  | .comp elt i k its cond => sdOwn (fun {sc X W e} g h => by
      cases e with
      | ListComp e0 gens scope pos =>
        match gens, h with
        | [], h => exact cfalse h
        | g0 :: g1 :: rest, h => exact cfalse (by
            obtain ⟨tg, a, ifs, n⟩ := g0
            cases tg with
            | Name _ _ =>
              cases n with
              | ofNat m => cases m <;> exact h
              | negSucc m => exact h
            | _ => exact h)
        | [g0], h =>
          obtain ⟨tg, a, ifs, n⟩ := g0
          cases tg with
          | Name x px =>
            cases n with
            | ofNat m =>
              cases m with
              | succ m => exact cfalse h
              | zero =>
                  obtain ⟨hh, h⟩ := b2 (show (!S.hot && ((decide (S.N[i]? = some x) && blkC S.N sc scope [(x, i)] && locB scope x) && (match iterArgs S sc k a with
                    | some es => P.chks S its sc es
                    | none => false) && (elt.chk S scope e0 && P.chkC S cond scope ifs))) = true from h)
                  have hh : S.hot = false := by simpa using hh
                  obtain ⟨h1, h2⟩ := b2 (show ((decide (S.N[i]? = some x) && blkC S.N sc scope [(x, i)] && locB scope x) && (match iterArgs S sc k a with
                    | some es => P.chks S its sc es
                    | none => false) && (elt.chk S scope e0 && P.chkC S cond scope ifs)) = true from h)
                  obtain ⟨h1, h3⟩ := b2 h1
                  obtain ⟨h1, h4⟩ := b2 h1
                  obtain ⟨h1, h5⟩ := b2 h1
                  obtain ⟨h6, h7⟩ := b2 h2
                  cases ei : iterArgs S sc k a with
                  | none => rw [ei] at h3; exact cfalse h3
                  | some es =>
                    rw [ei] at h3
                    have pi : (∀ x, foldedSetIterable a X.env x = pure x) ∧ PI X (.Name x px) a (iG X.K G cl W k its) := by
                      cases k with
                      | seq =>
                        obtain ⟨c, rfl⟩ := iter_seq ei
                        match its, h3 with
                        | [], h3 => exact cfalse h3
                        | _ :: _ :: _, h3 => exact cfalse (by
                            obtain ⟨_, h8⟩ := b2 h3
                            exact (b2 h8).2)
                        | [p], h3 =>
                          obtain ⟨h8, h9⟩ := b2 (show (plainE a && (p.chk S sc a && true)) = true from h3)
                          exact ⟨plainFold c _, pi_gen ((P.sd p).pe g (b2 h9).1)⟩
                      | rng1 =>
                        have hps := P.sounds its g h3
                        obtain ⟨p1, a1, p2, rfl, c1, c2, rfl⟩ := iter_rng1 ei
                        exact ⟨fun _ => rfl, snd_rng1 g c1 c2 (chks_plain h3 _ (by simp)) hps⟩
                      | rng2 =>
                        have hps := P.sounds its g h3
                        obtain ⟨p1, a1, b1, p2, rfl, c1, c2, rfl⟩ := iter_rng2 ei
                        exact ⟨fun _ => rfl, snd_rng2 g c1 c2 (chks_plain h3 _ (by simp)) (chks_plain h3 _ (by simp)) hps⟩
                    refine comp_sound g hh (of_decide_eq_true h1) h5 (h4) pi.1 pi.2 (fun X' g' => (P.sd elt).pe g' h6) fun X' g' => ?_
                    match cond, ifs, h7 with
                    | [], [], _ => exact tsts_nil
                    | [], _ :: _, h7 => exact cfalse h7
                    | [_], [], h7 => exact cfalse h7
                    | _ :: _ :: _, [], h7 => exact cfalse h7
                    | [p], [c], h7 => exact tsts_one ((P.sd p).pt g' h7)
                    | _ :: _ :: _, _ :: _, h7 => exact cfalse h7
                    | [_], _ :: _ :: _, h7 => exact cfalse h7
            | negSucc m => exact cfalse h
          | _ => exact cfalse h
      | _ => exact cfalse h) (fun {sc e} h => by cases e <;> first | rfl | exact cfalse h | (rename_i op _ _; cases op <;> first | rfl | exact cfalse h))
  | .call k ps => sdOwn (fun {sc X W e} g h => by
      cases e with
      | Call f es kws pos =>
        cases f with
        | Name x p =>
          cases kws with
          | nil =>
            obtain ⟨h1, h2⟩ := b2 (show (!S.hot && decide (S.fnn[k]? = some x) && decide (S.fio[k]? = some []) && glB sc x && okName x && P.chks S ps sc es) = true from h)
            obtain ⟨h1, h3⟩ := b2 h1
            obtain ⟨h1, h4⟩ := b2 h1
            obtain ⟨h1, h5⟩ := b2 h1
            obtain ⟨hh, h1⟩ := b2 h1
            have hh : S.hot = false := by simpa using hh
            exact snd_call g hh (of_decide_eq_true h1) (of_decide_eq_true h5) h4 h3 (chks_len h2) (chks_plain h2) (P.sounds ps g h2)
          | cons _ _ => exact cfalse h
        | _ => exact cfalse h
      | _ => exact cfalse h) (fun {sc e} h => by cases e <;> first | rfl | exact cfalse h | (rename_i op _ _; cases op <;> first | rfl | exact cfalse h))
  | .bi b ps => sdOwn (fun {sc X W e} g h => by
      cases e with
      | Call f es kws pos =>
        cases f with
        | Name x p =>
          obtain ⟨h1, h2⟩ := b2 (show (decide (x = b.name) && S.bt.contains x && glB sc x && okName x && kwB b kws && !es.isEmpty && P.chks S ps sc es) = true from h)
          obtain ⟨h1, h3⟩ := b2 h1
          obtain ⟨h1, h4⟩ := b2 h1
          obtain ⟨h1, h5⟩ := b2 h1
          obtain ⟨h1, h6⟩ := b2 h1
          obtain ⟨h1, h7⟩ := b2 h1
          have e := of_decide_eq_true h1
          subst e
          exact snd_bi g h6 h7 h4 (by simpa using h3) (chks_plain h2) (P.sounds ps g h2)
        | _ => exact cfalse h
      | _ => exact cfalse h) (fun {sc e} h => by cases e <;> first | rfl | exact cfalse h | (rename_i op _ _; cases op <;> first | rfl | exact cfalse h))
  | .isi p ty => sdOwn (fun {sc X W e} g h => by
      cases e with
      | Call f es kws pos =>
        cases f with
        | Name x p1 =>
          match es, h with
          | [], h => exact cfalse h
          | [_], h => exact cfalse h
          | _ :: b :: _ :: _, h => exact cfalse (by cases b <;> exact h)
          | [a, b], h =>
            cases b with
            | Name y p2 =>
              cases kws with
              | cons _ _ => exact cfalse h
              | nil =>
                obtain ⟨h1, h2⟩ := b2 (show (decide (x = ("isinstance" : Str)) && S.bt.contains x && glB sc x && decide (y = ty.name) && S.bt.contains y && glB sc y && plainE a && p.chk S sc a) = true from h)
                obtain ⟨h1, h3⟩ := b2 h1
                obtain ⟨h1, h4⟩ := b2 h1
                obtain ⟨h1, h5⟩ := b2 h1
                obtain ⟨h1, h6⟩ := b2 h1
                obtain ⟨h1, h7⟩ := b2 h1
                obtain ⟨h1, h8⟩ := b2 h1
                have e := of_decide_eq_true h1
                subst e
                have e := of_decide_eq_true h6
                subst e
                exact snd_isi g h8 h7 h5 h4 h3 ((P.sd p).pe g h2)
            | _ => exact cfalse h
        | _ => exact cfalse h
      | _ => exact cfalse h) (fun {sc e} h => by cases e <;> first | rfl | exact cfalse h | (rename_i op _ _; cases op <;> first | rfl | exact cfalse h))
  | .xfl f => sdOwn (fun {sc X W e} g h => by
      cases e with
      | Attribute o a pos =>
        cases o with
        | Name x xp =>
          obtain ⟨h1, h2⟩ := b2 (show (decide (a = f) && hsB S sc x) = true from h)
          have e := of_decide_eq_true h1
          subst e
          exact snd_xfl g h2
        | _ => exact cfalse h
      | _ => exact cfalse h) (fun {sc e} h => by cases e <;> first | rfl | exact cfalse h | (rename_i op _ _; cases op <;> first | rfl | exact cfalse h))
  | .xis k => sdOwn (fun {sc X W e} g h => by
      cases e with
      | Call f es kws pos =>
        cases f with
        | Name x p1 =>
          match es, h with
          | [], h => exact cfalse h
          | [a], h => exact cfalse (by cases a <;> exact h)
          | a :: b :: _ :: _, h => exact cfalse (by cases a <;> cases b <;> exact h)
          | [a, b], h =>
            cases a with
            | Name x2 p2 =>
              cases b with
              | Name y p3 =>
                cases kws with
                | cons _ _ => exact cfalse h
                | nil =>
                  obtain ⟨h1, q1⟩ := b2 (show (decide (x = ("isinstance" : Str)) && (S.bt.contains x && (glB sc x && (hsB S sc x2 && (decide (S.cn[k]? = some y) && (glB sc y && okName y)))))) = true from h)
                  obtain ⟨h2, q2⟩ := b2 q1
                  obtain ⟨h3, q3⟩ := b2 q2
                  obtain ⟨h4, q4⟩ := b2 q3
                  obtain ⟨h5, q5⟩ := b2 q4
                  obtain ⟨h6, h7⟩ := b2 q5
                  have e := of_decide_eq_true h1
                  subst e
                  exact snd_xis g h2 h3 h4 (of_decide_eq_true h5) h6 h7
              | _ => exact cfalse h
            | _ => exact cfalse (by cases b <;> exact h)
        | _ => exact cfalse h
      | _ => exact cfalse h) (fun {sc e} h => by cases e <;> first | rfl | exact cfalse h | (rename_i op _ _; cases op <;> first | rfl | exact cfalse h))
  | .xcall k => sdOwn (fun {sc X W e} g h => by
      cases e with
      | Call f es kws pos =>
        cases f with
        | Name x p1 =>
          match es, h with
          | [], h => exact cfalse h
          | a :: _ :: _, h => exact cfalse (by cases a <;> exact h)
          | [a], h =>
            cases a with
            | Name x2 p2 =>
              cases kws with
              | cons _ _ => exact cfalse h
              | nil =>
                obtain ⟨h1, q1⟩ := b2 (show (decide (S.xnn[k]? = some x) && (glB sc x && (okName x && hsB S sc x2))) = true from h)
                obtain ⟨h2, q2⟩ := b2 q1
                obtain ⟨h3, h4⟩ := b2 q2
                exact snd_xcall g (of_decide_eq_true h1) h2 h3 h4
            | _ => exact cfalse h
        | _ => exact cfalse h
      | _ => exact cfalse h) (fun {sc e} h => by cases e <;> first | rfl | exact cfalse h | (rename_i op _ _; cases op <;> first | rfl | exact cfalse h))
  | .cmp3 o o' p q r => sdOwn2 (fun {sc X W e} g h => by
      cases e with
      | Compare a ops bs pos =>
        match ops, bs, h with
        | [op, op'], [b, c], h =>
          obtain ⟨h1, h2⟩ := b2 (show (decide (op = o.op) && (decide (op' = o'.op) && (plainE b && (plainE c && (p.chk S sc a && (q.chk S sc b && r.chk S sc c)))))) = true from h)
          obtain ⟨h3, h4⟩ := b2 h2
          obtain ⟨h5, h6⟩ := b2 h4
          obtain ⟨h7, h8⟩ := b2 h6
          obtain ⟨h9, h10⟩ := b2 h8
          obtain ⟨h11, h12⟩ := b2 h10
          have e := of_decide_eq_true h1
          subst e
          have e := of_decide_eq_true h3
          subst e
          exact snd_cmp3 g h5 h7 ((P.sd p).pe g h9) ((P.sd q).pe g h11) ((P.sd r).pe g h12)
        | [], _, h => exact cfalse h
        | [_], _, h => exact cfalse h
        | [_, _], [], h => exact cfalse h
        | [_, _], [_], h => exact cfalse h
        | [_, _], _ :: _ :: _ :: _, h => exact cfalse h
        | _ :: _ :: _ :: _, _, h => exact cfalse h
      | _ => exact cfalse h) (
    fun {sc X W e} g h => by
      cases e with
      | Compare a ops bs pos =>
        match ops, bs, h with
        | [op, op'], [b, c], h =>
          obtain ⟨h1, h2⟩ := b2 (show (decide (op = o.op) && (decide (op' = o'.op) && (plainE b && (plainE c && (p.chk S sc a && (q.chk S sc b && r.chk S sc c)))))) = true from h)
          obtain ⟨h3, h4⟩ := b2 h2
          obtain ⟨h5, h6⟩ := b2 h4
          obtain ⟨h7, h8⟩ := b2 h6
          obtain ⟨h9, h10⟩ := b2 h8
          obtain ⟨h11, h12⟩ := b2 h10
          have e := of_decide_eq_true h1
          subst e
          have e := of_decide_eq_true h3
          subst e
          exact snd_cmp3T g h5 h7 ((P.sd p).pe g h9) ((P.sd q).pe g h11) ((P.sd r).pe g h12)
        | [], _, h => exact cfalse h
        | [_], _, h => exact cfalse h
        | [_, _], [], h => exact cfalse h
        | [_, _], [_], h => exact cfalse h
        | [_, _], _ :: _ :: _ :: _, h => exact cfalse h
        | _ :: _ :: _ :: _, _, h => exact cfalse h
      | _ => exact cfalse h) (fun h => cfalse h)
  | .rv p => sdOwn (fun {sc X W e} g h => by
      cases e with
      | Subscript a b pos =>
        match b, h with
        | .Slice none none (some (.UnaryOp .USub (.Constant (.int 1) k p1) p2)) p3, h => exact snd_rv ((P.sd p).pe g (show p.chk S sc a = true from h))
        | b, h =>
          have key := rv_chk (S := S) (p := p) (sc := sc) (a := a) (b := b) (pos := pos) h
          obtain ⟨k, p1, p2, p3, rfl, h2⟩ := key
          exact snd_rv ((P.sd p).pe g h2)
      | _ => exact cfalse h) (fun {sc e} h => by cases e <;> first | rfl | exact cfalse h | (rename_i op _ _; cases op <;> first | rfl | exact cfalse h))
  | .mt m p ps => sdOwn (fun {sc X W e} g h => by
      cases e with
      | Call f es kws pos =>
        cases f with
        | Attribute o x ap =>
          cases kws with
          | cons _ _ => exact cfalse h
          | nil =>
            obtain ⟨h1, h2⟩ := b2 (show (decide (x = m.name) && (attrB o && ((ap.endLine == pos.line) && (decide (es.length = 1) && (p.chk S sc o && P.chks S ps sc es))))) = true from h)
            obtain ⟨h3, h4⟩ := b2 h2
            obtain ⟨h5, h6⟩ := b2 h4
            obtain ⟨h7, h8⟩ := b2 h6
            obtain ⟨h9, h10⟩ := b2 h8
            have e := of_decide_eq_true h1
            subst e
            match es, h7, h10 with
            | [e1], _, h10 => exact snd_mt g h3 h5 (chks_plain h10 _ (by simp)) ((P.sd p).pe g h9) (P.sounds ps g h10)
            | [], h7, _ => exact cfalse h7
            | _ :: _ :: _, h7, _ => exact absurd (of_decide_eq_true h7) (by simp)
        | _ => exact cfalse h
      | _ => exact cfalse h) (fun {sc e} h => by cases e <;> first | rfl | exact cfalse h | (rename_i op _ _; cases op <;> first | rfl | exact cfalse h))
  | .lrev p => sdOwn (fun {sc X W e} g h => by
      obtain ⟨x, y, p1, p2, p3, pos, a, rfl, h⟩ := lrev_chk h
      obtain ⟨h1, h⟩ := b2 h
      obtain ⟨h2, h⟩ := b2 h
      obtain ⟨h3, h⟩ := b2 h
      obtain ⟨h4, h⟩ := b2 h
      obtain ⟨h5, h⟩ := b2 h
      obtain ⟨h6, h⟩ := b2 h
      obtain ⟨h7, h⟩ := b2 h
      obtain ⟨h8, h9⟩ := b2 h
      have e := of_decide_eq_true h2
      subst e
      have e := of_decide_eq_true h3
      subst e
      exact snd_lrev g (by simpa using h1) h4 h5 h6 h7 h8 ((P.sd p).pe g h9)) (fun {sc e} h => by
      obtain ⟨x, y, p1, p2, p3, pos, a, rfl, h⟩ := lrev_chk h
      rfl)
  | .maxk p i q => sdOwn (fun {sc X W e} g h => by
      obtain ⟨x, p1, a, nm, params, body, lsc, lp, kp, pos, rfl, h⟩ := maxk_chk h
      obtain ⟨h1, h⟩ := b2 h
      obtain ⟨h2, h⟩ := b2 h
      obtain ⟨h3, h⟩ := b2 h
      obtain ⟨h4, h⟩ := b2 h
      obtain ⟨h5, h⟩ := b2 h
      obtain ⟨h6, h⟩ := b2 h
      obtain ⟨h7, h⟩ := b2 h
      obtain ⟨h8, h9⟩ := b2 h
      have e := of_decide_eq_true h3
      subst e
      have e := of_decide_eq_true h4
      subst e
      exact snd_maxk g (by simpa using h1) h2 h5 h6 h7 ((P.sd p).pe g h8) h9) (fun {sc e} h => by
      obtain ⟨x, p1, a, nm, params, body, lsc, lp, kp, pos, rfl, h⟩ := maxk_chk h
      rfl)
  | .srtl p i q => sdOwn (fun {sc X W e} g h => by
      obtain ⟨x, p1, a, nm, params, body, lsc, lp, kp, pos, rfl, h⟩ := srtl_chk h
      obtain ⟨h1, h⟩ := b2 h
      obtain ⟨h2, h⟩ := b2 h
      obtain ⟨h3, h⟩ := b2 h
      obtain ⟨h4, h⟩ := b2 h
      obtain ⟨h5, h⟩ := b2 h
      obtain ⟨h6, h⟩ := b2 h
      obtain ⟨h7, h⟩ := b2 h
      obtain ⟨h8, h9⟩ := b2 h
      have e := of_decide_eq_true h3
      subst e
      have e := of_decide_eq_true h4
      subst e
      exact snd_srtl g (by simpa using h1) h2 h5 h6 h7 ((P.sd p).pe g h8) h9) (fun {sc e} h => by
      obtain ⟨x, p1, a, nm, params, body, lsc, lp, kp, pos, rfl, h⟩ := srtl_chk h
      rfl)
  | .srtr p i q => sdOwn (fun {sc X W e} g h => by
      obtain ⟨x, p1, y, p2, a, p3, nm, params, body, lsc, lp, kp, pos, rfl, h⟩ := srtr_chk h
      obtain ⟨h1, h⟩ := b2 h
      obtain ⟨h2, h⟩ := b2 h
      obtain ⟨h3, h⟩ := b2 h
      obtain ⟨h4, h⟩ := b2 h
      obtain ⟨h5, h⟩ := b2 h
      obtain ⟨h6, h⟩ := b2 h
      obtain ⟨h7, h⟩ := b2 h
      obtain ⟨h8, h⟩ := b2 h
      obtain ⟨h9, h⟩ := b2 h
      obtain ⟨h10, h⟩ := b2 h
      obtain ⟨h11, h12⟩ := b2 h
      have e := of_decide_eq_true h3
      subst e
      have e := of_decide_eq_true h4
      subst e
      have e := of_decide_eq_true h7
      subst e
      exact snd_srtr g (by simpa using h1) h2 h5 h6 h8 h9 h10 ((P.sd p).pe g h11) h12) (fun {sc e} h => by
      obtain ⟨x, p1, y, p2, a, p3, nm, params, body, lsc, lp, kp, pos, rfl, h⟩ := srtr_chk h
      rfl)
  | .lrng p => sdOwn (fun {sc X W e} g h => by
      obtain ⟨x, y, p1, p2, p3, pos, a, rfl, h⟩ := lrng_chk h
      obtain ⟨h1, h⟩ := b2 h
      obtain ⟨h2, h⟩ := b2 h
      obtain ⟨h3, h⟩ := b2 h
      obtain ⟨h4, h⟩ := b2 h
      obtain ⟨h5, h⟩ := b2 h
      obtain ⟨h6, h⟩ := b2 h
      obtain ⟨h7, h⟩ := b2 h
      obtain ⟨h8, h9⟩ := b2 h
      have e := of_decide_eq_true h2
      subst e
      have e := of_decide_eq_true h3
      subst e
      exact snd_lrng g (by simpa using h1) h4 h5 h6 h7 h8 ((P.sd p).pe g h9)) (fun {sc e} h => by
      obtain ⟨x, y, p1, p2, p3, pos, a, rfl, h⟩ := lrng_chk h
      rfl)
  | .sset p => sdOwn (fun {sc X W e} g h => by
      obtain ⟨x, y, p1, p2, p3, pos, a, rfl, h⟩ := sset_chk h
      obtain ⟨h1, h⟩ := b2 h
      obtain ⟨h2, h⟩ := b2 h
      obtain ⟨h3, h⟩ := b2 h
      obtain ⟨h4, h⟩ := b2 h
      obtain ⟨h5, h⟩ := b2 h
      obtain ⟨h6, h⟩ := b2 h
      obtain ⟨h7, h⟩ := b2 h
      obtain ⟨h8, h9⟩ := b2 h
      have e := of_decide_eq_true h2
      subst e
      have e := of_decide_eq_true h3
      subst e
      exact snd_sset g (by simpa using h1) h4 h5 h6 h7 h8 ((P.sd p).pe g h9)) (fun {sc e} h => by
      obtain ⟨x, y, p1, p2, p3, pos, a, rfl, h⟩ := sset_chk h
      rfl)
  | .edct => sdOwn (fun {sc X W e} g h => by
      cases e with
      | Dict ks vs pos =>
        cases ks with
        | nil =>
          cases vs with
          | nil =>
            refine PE.mono pe_dnewK fun σ H Q ⟨ρ, hid, ho, vr, q⟩ p hp => ?_
            refine out_of q (.ref p) _ [] (sub_upd hp) (fun _ z => nomatch z) (.fz (.dct ?_))
            rw [List.nil_append, hide_out (ho.fresh hp)]
            exact upd_same
          | cons _ _ => exact cfalse h
        | cons _ _ => exact cfalse h
      | _ => exact cfalse h) (fun {sc e} h => by cases e <;> first | rfl | exact cfalse h | (rename_i op _ _; cases op <;> first | rfl | exact cfalse h))
  | .lset p => sdOwn (fun {sc X W e} g h => by
      obtain ⟨x, y, p1, p2, p3, pos, a, rfl, h⟩ := lset_chk h
      obtain ⟨h1, h⟩ := b2 h
      obtain ⟨h2, h⟩ := b2 h
      obtain ⟨h3, h⟩ := b2 h
      obtain ⟨h4, h⟩ := b2 h
      obtain ⟨h5, h⟩ := b2 h
      obtain ⟨h6, h⟩ := b2 h
      obtain ⟨h7, h⟩ := b2 h
      obtain ⟨h8, h9⟩ := b2 h
      have e := of_decide_eq_true h2
      subst e
      have e := of_decide_eq_true h3
      subst e
      exact snd_lset g (by simpa using h1) h4 h5 h6 h7 h8 ((P.sd p).pe g h9)) (fun {sc e} h => by
      obtain ⟨x, y, p1, p2, p3, pos, a, rfl, h⟩ := lset_chk h
      rfl)
  | .hcall k p => sdOwn (fun {sc X W e} g h => by
      obtain ⟨f, p1, e1, pos, rfl, h⟩ := hcall_chk h
      obtain ⟨h1, h⟩ := b2 h
      obtain ⟨h2, h⟩ := b2 h
      obtain ⟨h3, h⟩ := b2 h
      obtain ⟨h4, h5⟩ := b2 h
      exact snd_hcall g (of_decide_eq_true h1) h2 h3 h4 ((P.sd p).pe g h5)) (fun {sc e} h => by
      obtain ⟨f, p1, e1, pos, rfl, h⟩ := hcall_chk h
      rfl)
  | .upper p => sdOwn (fun {sc X W e} g h => by
      obtain ⟨o, x, ap, cp, rfl, h⟩ := upper_chk h
      obtain ⟨h1, h⟩ := b2 h
      obtain ⟨h2, h⟩ := b2 h
      obtain ⟨h3, h4⟩ := b2 h
      have e := of_decide_eq_true h1
      subst e
      exact snd_upper g h2 h3 ((P.sd p).pe g h4)) (fun {sc e} h => by
      obtain ⟨o, x, ap, cp, rfl, h⟩ := upper_chk h
      rfl)
theorem P.soundO : ∀ (p : Option P) {sc : Scope} {X : Cx} {W : WX} {e : Option Expr}, GX S G cl sc X W → P.chkO S p sc e = true → PO X e (tO X.K G cl W p)
  | none, sc, X, W, e, g, h => by
    cases e with
    | none => exact snd_prtN
    | some _ => exact cfalse h
  | some p, sc, X, W, e, g, h => by
    cases e with
    | none => exact cfalse h
    | some e => exact snd_prt ((P.sd p).pe g h)
theorem P.sounds : ∀ (ps : List P) {sc : Scope} {X : Cx} {W : WX} {es : List Expr}, GX S G cl sc X W → P.chks S ps sc es = true → PA X es (tPs X.K G cl W ps)
  | [], sc, X, W, es, g, h => by
    cases es with
    | nil => exact snd_nil
    | cons _ _ => exact cfalse h
  | p :: ps, sc, X, W, es, g, h => by
    cases es with
    | nil => exact cfalse h
    | cons e es =>
      obtain ⟨h1, h2⟩ := b2 (show (plainE e && (p.chk S sc e && P.chks S ps sc es)) = true from h)
      obtain ⟨h3, h4⟩ := b2 h2
      exact snd_cons h1 ((P.sd p).pe g h3) (P.sounds ps g h4)
end
end
end Gn

set_option Elab.async false
set_option linter.all false
set_option maxRecDepth 100000
set_option maxHeartbeats 4000000
namespace Gn
open PySem PySem.Spec PyProof.Rows L2

/-- where no tables are asked for -/
instance (priority := low) noTbls : Tbls := ⟨[]⟩
/-! ### statements and their meaning -/
/-- how a stored value is told from what the slots own: no owned slot is read; or all its frozen leaves are flat -/
inductive Md where
  | dr | lf
inductive RM where
  | full | dr | lf
inductive Tg where
  | one (i : Nat)
  | tup (is : List Nat)
/-- an argument that is read; a slot's own list, handed over to be changed; a value just made, handed over -/
inductive Ag where
  | val (p : P) (m : Md)
  | slot (i : Nat)
  | tmp (p : P)
  | itm (i : Nat) (p : P)
/-- a call that changes its arguments; its value's length -/
inductive Cc where
  | call (k : Nat) (io : List Nat) (as : List Ag)
  | len (c : Cc)
/-- tests with such a call -/
inductive Ct where
  | tru (c : Cc)
  | ntru (c : Cc)
  | cmp (o : CmpO) (c : Cc) (q : P)
  | orr (p : P) (t : Ct)
inductive S where
  | itec (t : Ct) (a b : List S)
  | exc (c : Cc)
  | asc (i : Nat) (c : Cc) (own : Bool)
  | retc (c : Cc)
  | forx (tg : Tg) (p q : P) (body : List S)
  | pas
  | brk
  | cnt
  | asg (i : Nat) (p : P) (m : Md) (own : Bool)
  | tas (is : List Nat) (p : P) (m : Md)
  | aug (i : Nat) (o : BinO) (p : P)
  | augx (i : Nat) (q : P) (o : BinO) (p : P)
  | app (i : Nat) (p : P) (m : Md)
  | updt (i : Nat) (q p : P) (m : Md)
  | popi (j i : Nat) (p : P)
  | pop0 (j i : Nat)
  | geti (j i : Nat) (p : P)
  | apop (j i : Nat) (p : P)
  | popx (i : Nat) (p : P)
  | rmv (i : Nat) (p : P)
  | ins (i : Nat) (q p : P) (m : Md)
  | appx (i : Nat) (q p : P) (m : Md)
  | appe (t i : Nat) (p : P) (m : Md)
  | expr (p : P)
  | ite (c : P) (a b : List S)
  | for1 (tg : Tg) (k : IK) (its : List P) (body : List S)
  | whl (c : P) (body : List S)
  | ret (p : P) (m : RM)
  | retm (i : Nat)
  | retd (s : Str) (i : Nat)
  | retN
  | rais (c : Nat) (ps : List P)
  | frz (i : Nat) (s : S)
  | tryx (body : List S) (h : S)
  | hnil
  | hcons (k : Nat) (o : Option Nat) (b : List S) (r : S)
inductive Res where
  | nx (ρ : Rho)
  | bk (ρ : Rho)
  | ct (ρ : Rho)
  | rt (t : T) (ρ : Rho)
  | ex (c : Nat) (fs : List D) (ρ : Rho)
  | no
def R.bindR {α : Type} (r : R α) (ρ : Rho) (f : α → Res) : Res := match r with
  | .ok a => f a
  | .ex c fs => .ex c fs ρ
  | .no => .no
@[simp] theorem R.bindR_ok {α : Type} (a : α) (ρ : Rho) (f : α → Res) : (R.ok a).bindR ρ f = f a := rfl
@[simp] theorem R.bindR_ex {α : Type} (c : Nat) (fs : List D) (ρ : Rho) (f : α → Res) : (R.ex c fs : R α).bindR ρ f = .ex c fs ρ := rfl
def dropT : Option T → Option T
  | some (.fz d) => some (.fz d)
  | _ => none
def drop (ρ : Rho) : Rho := ρ.map dropT
def freezeT : Option T → Option T
  | some t => some (.fz t.d)
  | none => none
def P.evm (G : Gam) (m : Md) (p : P) (ρ : Rho) : R T := match m with
  | .dr => p.ev G (drop ρ)
  | .lf => do
    let t ← p.ev G ρ
    if t.lf then .ok t else .no
def setIs : List Nat → List D → Rho → R Rho
  | [], [], ρ => .ok ρ
  | i :: is, d :: ds, ρ => setIs is ds (ρ.set i (some (.fz d)))
  | _, _, _ => .no
def Tg.set : Tg → D → Rho → R Rho
  | .one i, d, ρ => .ok (ρ.set i (some (.fz d)))
  | .tup is, .tuple ds, ρ => setIs is ds ρ
  | _, _, _ => .no
def itemsM (G : Gam) (k : IK) (its : List P) (ρ : Rho) : R (List D) := match k with
  | .seq => do itemsK .seq (← P.evs G its (drop ρ))
  | k => do itemsK k (← P.evs G its ρ)
def forL (f : D → Rho → Res) : List D → Rho → Res
  | [], ρ => .nx ρ
  | d :: ds, ρ => match f d ρ with
    | .nx ρ' => forL f ds ρ'
    | .ct ρ' => forL f ds ρ'
    | .bk ρ' => .nx ρ'
    | r => r
def whlL (c : Rho → R Bool) (f : Rho → Res) : Nat → Rho → Res
  | 0, _ => .no
  | n + 1, ρ => (c ρ).bindR ρ fun b => if b then match f ρ with
      | .nx ρ' => whlL c f n ρ'
      | .ct ρ' => whlL c f n ρ'
      | .bk ρ' => .nx ρ'
      | r => r
    else .nx ρ
def fuelN : Nat := 18446744073709551616
def slotT (ρ : Rho) (i : Nat) : R T := match ρ[i]? with
  | some (some t) => .ok t
  | _ => .no
def slotI (ρ : Rho) (i : Nat) : R Int := match ρ[i]? with
  | some (some (.fz (.int a))) => .ok a
  | _ => .no
def slotL (ρ : Rho) (i : Nat) : R (List T) := match ρ[i]? with
  | some (some (.lst ts)) => .ok ts
  | _ => .no
/-- an int at a place -/
def intT : Option T → R Int
  | some (.fz (.int a)) => .ok a
  | _ => .no
def augD : BinO → Int → D → R Int
  | .add, a, .int b => .ok (a + b)
  | .sub, a, .int b => .ok (a - b)
  | _, _, _ => .no
def ixD (n : Nat) : D → R Nat
  | .int k => R.of (ixN n k)
  | _ => .no
/-- .. where it is popped -/
def ixP (n : Nat) : D → R Nat
  | .int k => if -(2 ^ 62) ≤ k ∧ k < 2 ^ 62 then R.of (ixN n k) else .no
  | _ => .no
/-- where the first integer of a list of integers stands that equals another -/
def rmI (ds : List D) : D → Option Nat
  | .int k => match intsOf ds with
    | some ns => ns.findIdx? fun n => decide (n = k)
    | none => none
  | _ => none
theorem rmI_some {ds : List D} {d : D} {j : Nat} (h : rmI ds d = some j) : ∃ (ns : List Int) (k : Int), ds = ns.map PyData.int ∧ d = .int k ∧ ns[j]? = some k ∧ ∀ m : Nat, m < j → ns[m]? ≠ some k := by
  cases d with
  | int k =>
    unfold rmI at h
    cases e : intsOf ds with
    | none => rw [e] at h; cases h
    | some ns =>
      rw [e] at h
      have h : ns.findIdx? (fun n => decide (n = k)) = some j := h
      obtain ⟨hj, h1, h2⟩ := List.findIdx?_eq_some_iff_getElem.mp h
      refine ⟨ns, k, intsOf_some e, rfl, ?_, fun m hm em => ?_⟩
      · rw [List.getElem?_eq_getElem hj, of_decide_eq_true h1]
      · have lm := (List.getElem?_eq_some_iff.mp em)
        obtain ⟨l1, l2⟩ := lm
        exact h2 m hm (decide_eq_true l2)
  | _ => cases h
/-- where it is put in -/
def insN : D → R Nat
  | .int k => if 0 ≤ k ∧ k < 2 ^ 62 then .ok k.toNat else .no
  | _ => .no
/-- a slot's list or tuple -/
def slotS (ρ : Rho) (i : Nat) : R (Bool × List T) := match ρ[i]? with
  | some (some (.lst ts)) => .ok (true, ts)
  | some (some (.tup ts)) => .ok (false, ts)
  | _ => .no
def mkS2 (b : Bool) (ts : List T) : T := if b then .lst ts else .tup ts
def subL (ts : List T) (j : Nat) : R (List T) := match ts[j]? with
  | some (.lst us) => .ok us
  | _ => .no
/-- a frozen item -/
def fzT : Option T → R D
  | some (.fz d) => .ok d
  | _ => .no
theorem fzT_nx (o : Option T) : NoEx (fzT o) := by
  unfold fzT
  split <;> first | exact nx_ok _ | exact nx_no
theorem fzT_ok {o : Option T} {d : D} (h : fzT o = .ok d) : o = some (.fz d) := by
  unfold fzT at h
  split at h <;> first | (cases h; rfl) | cases h
theorem insN_nx (d : D) : NoEx (insN d) := by
  unfold insN
  split <;> first | exact nx_ite (nx_ok _) nx_no | exact nx_no
theorem insN_ok {d : D} {n : Nat} (h : insN d = .ok n) : ∃ k, d = .int k ∧ 0 ≤ k ∧ k < 2 ^ 62 ∧ n = k.toNat := by
  cases d with
  | int k =>
    have h : (if 0 ≤ k ∧ k < 2 ^ 62 then (.ok k.toNat : R Nat) else .no) = .ok n := h
    by_cases c : 0 ≤ k ∧ k < 2 ^ 62
    · rw [if_pos c] at h
      cases h
      exact ⟨k, rfl, c.1, c.2, rfl⟩
    · rw [if_neg c] at h
      cases h
  | _ => cases h
theorem slotS_nx (ρ : Rho) (i : Nat) : NoEx (slotS ρ i) := by
  unfold slotS
  split <;> first | exact nx_ok _ | exact nx_no
theorem slotS_ok {ρ : Rho} {i : Nat} {b : Bool} {ts : List T} (h : slotS ρ i = .ok (b, ts)) : ρ[i]? = some (some (mkS2 b ts)) := by
  unfold slotS at h
  split at h <;> first | (cases h; assumption) | cases h
theorem subL_nx (ts : List T) (j : Nat) : NoEx (subL ts j) := by
  unfold subL
  split <;> first | exact nx_ok _ | exact nx_no
theorem subL_ok {ts us : List T} {j : Nat} (h : subL ts j = .ok us) : ts[j]? = some (.lst us) := by
  unfold subL at h
  split at h <;> first | (cases h; assumption) | cases h
theorem slotT_ok {ρ : Rho} {i : Nat} {t : T} (h : slotT ρ i = .ok t) : ρ[i]? = some (some t) := by
  unfold slotT at h
  split at h
  · cases h; assumption
  · cases h
theorem slotI_ok {ρ : Rho} {i : Nat} {a : Int} (h : slotI ρ i = .ok a) : ρ[i]? = some (some (.fz (.int a))) := by
  unfold slotI at h
  split at h
  · cases h; assumption
  · cases h
theorem slotL_ok {ρ : Rho} {i : Nat} {a : List T} (h : slotL ρ i = .ok a) : ρ[i]? = some (some (.lst a)) := by
  unfold slotL at h
  split at h
  · cases h; assumption
  · cases h
theorem slotT_nx (ρ : Rho) (i : Nat) : NoEx (slotT ρ i) := by
  unfold slotT
  split <;> first | exact nx_ok _ | exact nx_no
theorem slotI_nx (ρ : Rho) (i : Nat) : NoEx (slotI ρ i) := by
  unfold slotI
  split <;> first | exact nx_ok _ | exact nx_no
theorem slotL_nx (ρ : Rho) (i : Nat) : NoEx (slotL ρ i) := by
  unfold slotL
  split <;> first | exact nx_ok _ | exact nx_no
theorem augD_nx (o : BinO) (a : Int) (d : D) : NoEx (augD o a d) := by
  unfold augD
  split <;> first | exact nx_ok _ | exact nx_no
theorem intT_nx (o : Option T) : NoEx (intT o) := by
  unfold intT
  split <;> first | exact nx_ok _ | exact nx_no
theorem ixD_nx (n : Nat) (d : D) : NoEx (ixD n d) := by
  unfold ixD
  split <;> first | exact nx_of _ | exact nx_no
theorem ixP_nx (n : Nat) (d : D) : NoEx (ixP n d) := by
  unfold ixP
  split <;> first | exact nx_ite (nx_of _) nx_no | exact nx_no
theorem ixP_ok {n : Nat} {d : D} {j : Nat} (h : ixP n d = .ok j) : ∃ k, d = .int k ∧ ixN n k = some j ∧ -(2 ^ 62) ≤ k ∧ k < 2 ^ 62 := by
  cases d with
  | int k =>
    have h : (if -(2 ^ 62) ≤ k ∧ k < 2 ^ 62 then R.of (ixN n k) else .no) = .ok j := h
    by_cases c : -(2 ^ 62) ≤ k ∧ k < 2 ^ 62
    · rw [if_pos c] at h
      cases e : ixN n k with
      | none => rw [e] at h; cases h
      | some z => rw [e] at h; cases h; exact ⟨k, rfl, e, c⟩
    · rw [if_neg c] at h
      cases h
  | _ => cases h
theorem ixD_ok {n : Nat} {d : D} {j : Nat} (h : ixD n d = .ok j) : ∃ k, d = .int k ∧ ixN n k = some j := by
  cases d with
  | int k =>
    refine ⟨k, rfl, ?_⟩
    have h : R.of (ixN n k) = .ok j := h
    cases e : ixN n k with
    | none => rw [e] at h; cases h
    | some z => rw [e] at h; cases h; rfl
  | _ => cases h
/-- where exceptions are handled -/
def Gam.hot (G : Gam) (o : Option Nat) (c : Nat) (fs : List D) : Gam := { G with calm := false, hx := match o with
  | some _ => some (c, fs)
  | none => none }
def hin (o : Option Nat) (ρ : Rho) : Rho := match o with
  | some i => (ρ.map freezeT).set i none
  | none => ρ.map freezeT
def hset : Option Nat → Rho → Rho
  | some i, ρ => ρ.set i none
  | none, ρ => ρ
def Res.hend (o : Option Nat) : Res → Res
  | .nx ρ => .nx (hset o ρ)
  | .bk ρ => .bk (hset o ρ)
  | .ct ρ => .ct (hset o ρ)
  | .rt t ρ => .rt t ρ
  | .ex _ _ _ => .no
  | .no => .no
/-- an answer with the slots as they are behind it -/
inductive RS (α : Type) where
  | ok (a : α) (ρ : Rho)
  | ex (c : Nat) (fs : List D) (ρ : Rho)
  | no
def RS.bindR {α : Type} (r : RS α) (f : α → Rho → Res) : Res := match r with
  | .ok a ρ => f a ρ
  | .ex c fs ρ => .ex c fs ρ
  | .no => .no
def RS.andThen {α β : Type} (r : RS α) (f : α → Rho → RS β) : RS β := match r with
  | .ok a ρ => f a ρ
  | .ex c fs ρ => .ex c fs ρ
  | .no => .no
def R.st {α : Type} (r : R α) (ρ : Rho) : RS α := match r with
  | .ok a => .ok a ρ
  | .ex c fs => .ex c fs ρ
  | .no => .no
/-- the items of a list that is read at a place -/
def listD : D → R (List D)
  | .list ds => .ok ds
  | _ => .no
def itemsX (G : Gam) (p q : P) (ρ : Rho) : R (List D) := do
  let t ← p.ev G (drop ρ)
  let u ← q.ev G ρ
  let r ← idxD t.d u.d
  listD r.d
def Ag.ev (G : Gam) (ρ : Rho) : Ag → R T
  | .val p m => do return .fz (← p.evm G m ρ).d
  | .slot i => slotT ρ i
  | .tmp p => p.ev G (drop ρ)
  | .itm i p => do
    let ts ← slotL ρ i
    let u ← p.ev G ρ
    let n ← ixD ts.length u.d
    let d ← fzT ts[n]?
    return .fz d
def Ag.evs (G : Gam) : List Ag → Rho → R (List T)
  | [], _ => .ok []
  | a :: as, ρ => do
    let t ← a.ev G ρ
    let ts ← Ag.evs G as ρ
    return t :: ts
def Ag.blank : List Ag → Rho → Rho
  | [], ρ => ρ
  | .slot i :: as, ρ => Ag.blank as (ρ.set i none)
  | .val _ _ :: as, ρ => Ag.blank as ρ
  | .tmp _ :: as, ρ => Ag.blank as ρ
  | .itm _ _ :: as, ρ => Ag.blank as ρ
def Ag.put (as : List Ag) : List Nat → List T → Rho → R Rho
  | [], [], ρ => .ok ρ
  | i :: io, t :: ts, ρ => match as[i]? with
    | some (.slot j) => match ρ[j]? with
      | some none => Ag.put as io ts (ρ.set j (some t))
      | _ => .no
    | some (.tmp _) => Ag.put as io ts ρ
    | _ => .no
  | _, _, _ => .no
def Ag.slots : List Ag → List Nat
  | [] => []
  | .slot i :: as => i :: Ag.slots as
  | .val _ _ :: as => Ag.slots as
  | .tmp _ :: as => Ag.slots as
  | .itm _ _ :: as => Ag.slots as
def callS (G : Gam) (k : Nat) (io : List Nat) (as : List Ag) (ρ : Rho) (ts : List T) : RS T := if ioB io 0 ts = true then match G.fn k ts with
    | .ok (t, outs) => match Ag.put as io outs (Ag.blank as ρ) with
      | .ok ρ' => .ok t ρ'
      | _ => .no
    | .ex c fs => .ex c fs (Ag.blank as ρ)
    | .no => .no
  else .no
def Cc.ev (G : Gam) : Cc → Rho → RS T
  | .call k io as, ρ => match Ag.evs G as ρ with
    | .ok ts => callS G k io as ρ ts
    | .ex c fs => .ex c fs ρ
    | .no => .no
  | .len c, ρ => (c.ev G ρ).andThen fun t ρ' => (biD G.calm .len [t.d]).st ρ'
def Ct.ev (G : Gam) : Ct → Rho → RS Bool
  | .tru c, ρ => (c.ev G ρ).andThen fun t ρ' => (truD t.d).st ρ'
  | .ntru c, ρ => (c.ev G ρ).andThen fun t ρ' => (do return !(← truD t.d) : R Bool).st ρ'
  | .cmp o c q, ρ => (c.ev G ρ).andThen fun t ρ' => (do cmpD o t.d (← q.ev G ρ').d : R Bool).st ρ'
  | .orr p t, ρ => ((p.tst G ρ).st ρ).andThen fun b ρ' => if b then .ok true ρ' else t.ev G ρ'
/-- for x in xs: x.append(p), xs an owned list of owned lists -/
def appeF (G : Gam) (t i : Nat) (p : P) (m : Md) : Nat → Nat → Rho → Res
  | 0, _, ρ => .nx ρ
  | n + 1, j, ρ => (slotL (ρ.set t none) i).bindR (ρ.set t none) fun ts => (subL ts j).bindR (ρ.set t none) fun us => (p.evm G m (ρ.set t none)).bindR (ρ.set t none) fun v =>
    if us.length < sizeLine then appeF G t i p m n (j + 1) ((ρ.set t none).set i (some (.lst (ts.set j (.lst (us ++ [v])))))) else .no
mutual
def S.run : Gam → S → Rho → Res
  | G, .itec t a b, ρ => (t.ev G ρ).bindR fun z ρ' => if z then S.runs G a ρ' else S.runs G b ρ'
  | G, .exc c, ρ => (c.ev G ρ).bindR fun _ ρ' => .nx ρ'
  | G, .asc i c own, ρ => (c.ev G ρ).bindR fun t ρ' => .nx (ρ'.set i (some (if own then t else .fz t.d)))
  | G, .retc c, ρ => (c.ev G ρ).bindR fun t ρ' => .rt t ρ'
  | G, .forx tg p q body, ρ => (itemsX G p q ρ).bindR ρ fun ds => forL (fun d ρ => (tg.set d ρ).bindR ρ fun ρ' => S.runs G body ρ') ds ρ
  | G, .pas, ρ => .nx ρ
  | G, .brk, ρ => .bk ρ
  | G, .cnt, ρ => .ct ρ
  | G, .asg i p m own, ρ => (p.evm G m ρ).bindR ρ fun t => .nx (ρ.set i (some (if own then t else .fz t.d)))
  | G, .tas is p m, ρ => (p.evm G m ρ).bindR ρ fun t => match t.d with
    | .tuple ds => (setIs is ds ρ).bindR ρ .nx
    | _ => .no
  | G, .aug i o p, ρ => (slotI ρ i).bindR ρ fun a => (p.ev G ρ).bindR ρ fun t => (augD o a t.d).bindR ρ fun n => .nx (ρ.set i (some (.fz (.int n))))
  | G, .app i p m, ρ => (slotL ρ i).bindR ρ fun ts => (p.evm G m ρ).bindR ρ fun t => if ts.length < sizeLine then .nx (ρ.set i (some (.lst (ts ++ [t])))) else .no
  | G, .augx i q o p, ρ => (slotL ρ i).bindR ρ fun ts => (q.ev G ρ).bindR ρ fun u => (ixD ts.length u.d).bindR ρ fun j => (intT ts[j]?).bindR ρ fun a => (p.ev G ρ).bindR ρ fun t => (augD o a t.d).bindR ρ fun n => .nx (ρ.set i (some (.lst (ts.set j (.fz (.int n))))))
  | G, .updt i q p m, ρ => (slotL ρ i).bindR ρ fun ts => (p.evm G m ρ).bindR ρ fun t => (q.ev G ρ).bindR ρ fun u => (ixD ts.length u.d).bindR ρ fun j => .nx (ρ.set i (some (.lst (ts.set j t))))
  | G, .pop0 j i, ρ => (slotL ρ i).bindR ρ fun ts => (R.of ts[ts.length - 1]?).bindR ρ fun t => .nx ((ρ.set i (some (.lst (ts.eraseIdx (ts.length - 1))))).set j (some t))
  | G, .geti j i p, ρ => (slotL ρ i).bindR ρ fun ts => (p.ev G ρ).bindR ρ fun u => (ixD ts.length u.d).bindR ρ fun n => (fzT ts[n]?).bindR ρ fun d => .nx (ρ.set j (some (.fz d)))
  | G, .popi j i p, ρ => (slotL ρ i).bindR ρ fun ts => (p.ev G ρ).bindR ρ fun u => (ixP ts.length u.d).bindR ρ fun n => (R.of ts[n]?).bindR ρ fun t => .nx ((ρ.set i (some (.lst (ts.eraseIdx n)))).set j (some t))
  | G, .apop j i p, ρ => (slotL ρ j).bindR ρ fun us => (slotL ρ i).bindR ρ fun ts => (p.ev G ρ).bindR ρ fun u => (ixP ts.length u.d).bindR ρ fun n => (R.of ts[n]?).bindR ρ fun t => if us.length < sizeLine then .nx ((ρ.set i (some (.lst (ts.eraseIdx n)))).set j (some (.lst (us ++ [t])))) else .no
  | G, .rmv i p, ρ => (slotL ρ i).bindR ρ fun ts => (p.ev G ρ).bindR ρ fun u => (R.of (rmI (T.ds ts) u.d)).bindR ρ fun n => .nx (ρ.set i (some (.lst (ts.eraseIdx n))))
  | G, .popx i p, ρ => (slotL ρ i).bindR ρ fun ts => (p.ev G ρ).bindR ρ fun u => (ixP ts.length u.d).bindR ρ fun n => .nx (ρ.set i (some (.lst (ts.eraseIdx n))))
  | G, .ins i q p m, ρ => (slotL ρ i).bindR ρ fun ts => (q.ev G ρ).bindR ρ fun u => (insN u.d).bindR ρ fun n => (p.evm G m ρ).bindR ρ fun t => if ts.length < sizeLine then .nx (ρ.set i (some (.lst (ts.take n ++ [t] ++ ts.drop n)))) else .no
  | G, .appx i q p m, ρ => (slotS ρ i).bindR ρ fun tt => (q.ev G ρ).bindR ρ fun u => (ixD tt.2.length u.d).bindR ρ fun j => (subL tt.2 j).bindR ρ fun us => (p.evm G m ρ).bindR ρ fun t => if us.length < sizeLine then .nx (ρ.set i (some (mkS2 tt.1 (tt.2.set j (.lst (us ++ [t])))))) else .no
  | G, .appe t i p m, ρ => (slotL ρ i).bindR ρ fun ts => appeF G t i p m ts.length 0 ρ
  | G, .expr p, ρ => (p.ev G ρ).bindR ρ fun _ => .nx ρ
  | G, .ite c a b, ρ => (c.tst G ρ).bindR ρ fun z => if z then S.runs G a ρ else S.runs G b ρ
  | G, .for1 tg k its body, ρ => (itemsM G k its ρ).bindR ρ fun ds => forL (fun d ρ => (tg.set d ρ).bindR ρ fun ρ' => S.runs G body ρ') ds ρ
  | G, .whl c body, ρ => whlL (c.tst G) (S.runs G body) fuelN ρ
  | G, .ret p .full, ρ => (p.ev G ρ).bindR ρ fun t => .rt t (ρ.map fun _ => none)
  | G, .ret p .dr, ρ => (p.evm G .dr ρ).bindR ρ fun t => .rt t ρ
  | G, .ret p .lf, ρ => (p.evm G .lf ρ).bindR ρ fun t => .rt t ρ
  | G, .retd s i, ρ => (slotT ρ i).bindR ρ fun t => .rt (mkTup [.fz (.str s), t]) (ρ.set i none)
  | G, .retm i, ρ => (slotT ρ i).bindR ρ fun t => .rt t (ρ.set i none)
  | G, .retN, ρ => .rt (.fz .none) ρ
  | G, .rais c ps, ρ => (P.evs G ps ρ).bindR ρ fun ts => .ex c (T.ds ts) ρ
  | G, .frz i s, ρ => S.run G s (ρ.set i (freezeT (ρ[i]?.getD none)))
  | G, .tryx b h, ρ => match S.runs G b ρ with
    | .ex c fs ρ' => if G.cok c then S.hds G h c fs ρ' else .no
    | r => r
  | _, .hnil, _ => .no
  | _, .hcons _ _ _ _, _ => .no
def S.hds : Gam → S → Nat → List D → Rho → Res
  | _, .hnil, c, fs, ρ => .ex c fs ρ
  | G, .hcons k o b r, c, fs, ρ => if G.isub c k then (S.runs (G.hot o c fs) b (hin o ρ)).hend o else S.hds G r c fs ρ
  | _, _, _, _, _ => .no
def S.runs : Gam → List S → Rho → Res
  | G, [], ρ => .nx ρ
  | G, s :: ss, ρ => match S.run G s ρ with
    | .nx ρ' => S.runs G ss ρ'
    | r => r
end
/-- what a def computes -/
def initR (n : Nat) (ts : List T) : Rho := ts.map some ++ List.replicate (n - ts.length) none
def outsOf (io : List Nat) (ρ : Rho) : R (List T) := match io with
  | [] => .ok []
  | i :: io => match ρ[i]? with
    | some (some t) => do return t :: (← outsOf io ρ)
    | _ => .no
def S.body (G : Gam) (n arity : Nat) (b : List S) (ts : List T) : R (T × List T) :=
  if ts.length = arity ∧ ioB G.io 0 ts = true then match S.runs G b (initR n ts) with
    | .nx ρ => do return (.fz .none, ← outsOf G.io ρ)
    | .rt t ρ => do return (t, ← outsOf G.io ρ)
    | .ex c fs _ => .ex c fs
    | _ => .no
  else .no

/-! ### the state -/
variable [Tbls]
inductive OwnS (K : PySem.W.Frag) (H : Hp) (hid : List Addr) : Rho → St → List Addr → Prop
  | nil : OwnS K H hid [] [] []
  | non {ρ : Rho} {σ : St} {fp : List Addr} (x : Option V) : OwnS K H hid ρ σ fp → OwnS K H hid (none :: ρ) (x :: σ) fp
  | cons {ρ : Rho} {σ : St} {fp fq : List Addr} {t : T} {v : V} : Own K H hid t v fp → OwnS K H hid ρ σ fq → (∀ a ∈ fp, a ∉ fq) → OwnS K H hid (some t :: ρ) (some v :: σ) (fp ++ fq)
/-- what is fixed around a statement -/
structure Bs where
  kept : Hp
  frn : List Addr
  io : List (Nat × V)
  n : Nat
  T : List (Addr × Str)
structure SRf (K : PySem.W.Frag) (b : Bs) (ρ : Rho) (σ : St) (H : Hp) (fp : List Addr) : Prop where
  kp : Ext b.kept H
  nk : ∀ a ∈ fp, b.kept a = none
  nf : ∀ a ∈ fp, a ∉ b.frn
  ho : HidOk H b.frn
  ow : OwnS K H (fp ++ b.frn) ρ σ fp
  io : ∀ p ∈ b.io, σ[p.1]? = some (some p.2)
  ln : σ.length = b.n
  tb : TabsH H
def SR (K : PySem.W.Frag) (b : Bs) (ρ : Rho) (σ : St) (H : Hp) : Prop := ∃ fp, SRf K b ρ σ H fp
section
variable {K : PySem.W.Frag} {H H' : Hp} {hid hid' : List Addr} {b : Bs}
theorem hide_congr (h : ∀ a, a ∈ hid ↔ a ∈ hid') : hide H hid = hide H hid' := by
  funext a
  unfold hide
  by_cases e : a ∈ hid
  · rw [if_pos e, if_pos ((h a).mp e)]
  · rw [if_neg e, if_neg fun z => e ((h a).mpr z)]
theorem keep_less (h : ∀ a ∈ hid', a ∈ hid) {fp : List Addr} : Keep H H hid hid' fp := ⟨hide_less h, fun _ _ _ e => KeepO.of e, fun _ _ e => e⟩
theorem keep_grow (ho : HidOk H hid) (s : Ext H H') {fp : List Addr} : Keep H H' hid hid fp := ⟨hide_grow ho s, fun a _ o e => s a o e, fun a _ e => s a _ e⟩
theorem OwnS.keep : ∀ {ρ : Rho} {σ : St} {fp : List Addr}, OwnS K H hid ρ σ fp → Keep H H' hid hid' fp → OwnS K H' hid' ρ σ fp
  | _, _, _, .nil, _ => .nil
  | _, _, _, .non x h, k => .non x (OwnS.keep h k)
  | _, _, _, .cons h r n, k => .cons (h.keep (k.less fun a ha => by simp [ha])) (OwnS.keep r (k.less fun a ha => by simp [ha])) n
theorem OwnS.lists : ∀ {ρ : Rho} {σ : St} {fp : List Addr}, OwnS K H hid ρ σ fp → HidOk H fp
  | _, _, _, .nil => HidOk.nil
  | _, _, _, .non x h => OwnS.lists h
  | _, _, _, .cons h r _ => h.lists.app (OwnS.lists r)
theorem OwnS.length : ∀ {ρ : Rho} {σ : St} {fp : List Addr}, OwnS K H hid ρ σ fp → ρ.length = σ.length
  | _, _, _, .nil => rfl
  | _, _, _, .non x h => by simp [OwnS.length h]
  | _, _, _, .cons h r _ => by simp [OwnS.length r]
/-- a slot taken out -/
theorem OwnS.take : ∀ {ρ : Rho} {σ : St} {fp : List Addr} {i : Nat} {t : T}, OwnS K H hid ρ σ fp → ρ[i]? = some (some t) →
    ∃ v f1 f2, σ[i]? = some (some v) ∧ Own K H hid t v f1 ∧ OwnS K H hid (ρ.set i none) σ f2 ∧ (∀ a ∈ f1, a ∉ f2) ∧ ∀ a, a ∈ fp ↔ a ∈ f1 ∨ a ∈ f2
  | _, _, _, _, _, .nil, e => by simp at e
  | _, _, _, 0, _, .non x h, e => by simp at e
  | _, _, _, i + 1, _, .non x h, e => by
    obtain ⟨v, f1, f2, h1, h2, h3, h4, h5⟩ := OwnS.take (i := i) h (by simpa using e)
    exact ⟨v, f1, f2, by simpa using h1, h2, .non x h3, h4, h5⟩
  | _, _, _, 0, _, .cons h r n, e => by
    simp at e
    subst e
    exact ⟨_, _, _, rfl, h, .non _ r, n, fun a => List.mem_append⟩
  | _, _, _, i + 1, _, .cons h r n, e => by
    obtain ⟨v, f1, f2, h1, h2, h3, h4, h5⟩ := OwnS.take (i := i) r (by simpa using e)
    refine ⟨v, f1, _, by simpa using h1, h2, .cons h h3 fun a ha z => n a ha ((h5 a).mpr (.inr z)), fun a ha z => ?_, fun a => ?_⟩
    · rcases List.mem_append.mp z with z | z
      · exact n a z ((h5 a).mpr (.inl ha))
      · exact h4 a ha z
    · rw [List.mem_append, List.mem_append, h5 a]
      constructor
      · rintro (z | z | z)
        · exact .inr (.inl z)
        · exact .inl z
        · exact .inr (.inr z)
      · rintro (z | z | z)
        · exact .inr (.inl z)
        · exact .inl z
        · exact .inr (.inr z)
/-- a slot forgotten (and written) -/
theorem OwnS.forget : ∀ {ρ : Rho} {σ : St} {fp : List Addr} (i : Nat) (x : Option V), OwnS K H hid ρ σ fp → ∃ f2, OwnS K H hid (ρ.set i none) (σ.set i x) f2 ∧ ∀ a ∈ f2, a ∈ fp
  | _, _, _, _, _, .nil => ⟨_, .nil, fun _ h => h⟩
  | _, _, _, 0, y, .non x h => ⟨_, .non _ h, fun _ h => h⟩
  | _, _, _, i + 1, y, .non x h => by
    obtain ⟨f2, h1, h2⟩ := OwnS.forget i y h
    exact ⟨f2, .non _ h1, h2⟩
  | _, _, _, 0, y, .cons h r n => ⟨_, .non _ r, fun _ h => List.mem_append_right _ h⟩
  | _, _, _, i + 1, y, .cons h r n => by
    obtain ⟨f2, h1, h2⟩ := OwnS.forget i y r
    refine ⟨_, .cons h h1 fun a ha z => n a ha (h2 a z), fun a ha => ?_⟩
    rcases List.mem_append.mp ha with z | z
    · exact List.mem_append_left _ z
    · exact List.mem_append_right _ (h2 a z)
/-- an empty slot filled -/
theorem OwnS.put : ∀ {ρ : Rho} {σ : St} {fp f1 : List Addr} {i : Nat} {t : T} {v : V}, OwnS K H hid (ρ.set i none) σ fp → i < ρ.length → Own K H hid t v f1 → (∀ a ∈ f1, a ∉ fp) →
    ∃ fq, OwnS K H hid (ρ.set i (some t)) (σ.set i (some v)) fq ∧ ∀ a, a ∈ fq ↔ a ∈ f1 ∨ a ∈ fp
  | [], _, _, _, _, _, _, _, l, _, _ => by simp at l
  | _ :: _, _, _, _, 0, _, _, h, _, o, n => by
    cases h with
    | non x h => exact ⟨_, .cons o h n, fun a => List.mem_append⟩
  | r :: ρ, _, _, f1, i + 1, t, v, h, l, o, n => by
    have l2 : i < ρ.length := Nat.lt_of_succ_lt_succ l
    have h3 : OwnS K H hid (r :: ρ.set i none) _ _ := h
    cases h3 with
    | non x h4 =>
      obtain ⟨fq, h1, h2⟩ := OwnS.put h4 l2 o n
      exact ⟨fq, .non x h1, h2⟩
    | @cons _ _ g1 g2 _ _ h4 r n2 =>
      obtain ⟨fq, h1, h2⟩ := OwnS.put r l2 o fun a ha z => n a ha (List.mem_append_right _ z)
      refine ⟨_, .cons h4 h1 fun a ha z => ?_, fun a => ?_⟩
      · rcases (h2 a).mp z with z | z
        · exact n a z (List.mem_append_left _ ha)
        · exact n2 a ha z
      · rw [List.mem_append, List.mem_append, h2 a]
        constructor
        · rintro (z | z | z)
          · exact .inr (.inl z)
          · exact .inl z
          · exact .inr (.inr z)
        · rintro (z | z | z)
          · exact .inr (.inl z)
          · exact .inl z
          · exact .inr (.inr z)
structure VR0 (K : PySem.W.Frag) (H : Hp) (hid : List Addr) (ρ : Rho) (σ : St) : Prop where
  len : ρ.length = σ.length
  get : ∀ (i : Nat) (t : T), ρ[i]? = some (some t) → ∃ v, σ[i]? = some (some v) ∧ Rep K (hide H hid) t.d v
theorem OwnS.vr0 (ho : HidOk H hid') (s : ∀ a ∈ hid', a ∈ hid) : ∀ {ρ : Rho} {σ : St} {fp : List Addr}, OwnS K H hid ρ σ fp → (∀ a ∈ fp, a ∉ hid') → VR0 K H hid' ρ σ
  | _, _, _, .nil, _ => ⟨rfl, fun i t e => by simp at e⟩
  | _, _, _, .non x h, k => by
    have q := OwnS.vr0 ho s h k
    refine ⟨by simp [q.len], fun i t e => ?_⟩
    cases i with
    | zero => simp at e
    | succ i => simpa using q.get i t (by simpa using e)
  | _, _, _, .cons h r n, k => by
    have q := OwnS.vr0 ho s r fun a ha => k a (List.mem_append_right _ ha)
    refine ⟨by simp [q.len], fun i t e => ?_⟩
    cases i with
    | zero =>
      simp at e
      subst e
      exact ⟨_, rfl, h.rep s ho fun a ha => k a (List.mem_append_left _ ha)⟩
    | succ i => simpa using q.get i t (by simpa using e)
theorem OwnS.vrd0 : ∀ {ρ : Rho} {σ : St} {fp : List Addr}, OwnS K H hid ρ σ fp → VR0 K H hid (drop ρ) σ
  | _, _, _, .nil => ⟨rfl, fun i t e => by simp [drop] at e⟩
  | _, _, _, .non x h => by
    have q := OwnS.vrd0 h
    refine ⟨by simpa [drop] using q.len, fun i t e => ?_⟩
    cases i with
    | zero => simp [drop, dropT] at e
    | succ i => simpa using q.get i t (by simpa [drop] using e)
  | _, _, _, .cons (t := t0) h r n => by
    have q := OwnS.vrd0 r
    refine ⟨by simpa [drop] using q.len, fun i t e => ?_⟩
    cases i with
    | zero =>
      cases h with
      | fz rp =>
        simp [drop, dropT] at e
        subst e
        exact ⟨_, rfl, rp⟩
      | lst _ _ _ => simp [drop, dropT] at e
      | tup _ _ => simp [drop, dropT] at e
    | succ i => simpa using q.get i t (by simpa [drop] using e)
theorem OwnS.vr {G : Gam} {cl : Cl} {ρ : Rho} {σ : St} {fp : List Addr} (o : OwnS K H hid ρ σ fp) (ho : HidOk H hid') (s : ∀ a ∈ hid', a ∈ hid) (h : ∀ a ∈ fp, a ∉ hid') (x : XR G cl K H hid' σ) : VR G cl K H hid' ρ σ :=
  ⟨(o.vr0 ho s h).len, x, (o.vr0 ho s h).get⟩
theorem OwnS.vrd {G : Gam} {cl : Cl} {ρ : Rho} {σ : St} {fp : List Addr} (o : OwnS K H hid ρ σ fp) (x : XR G cl K H hid σ) : VR G cl K H hid (drop ρ) σ :=
  ⟨o.vrd0.len, x, o.vrd0.get⟩
theorem OwnS.clear : ∀ {ρ : Rho} {σ : St} {fp : List Addr}, OwnS K H hid ρ σ fp → OwnS K H hid (ρ.map fun _ => none) σ []
  | _, _, _, .nil => .nil
  | _, _, _, .non x h => .non x (OwnS.clear h)
  | _, _, _, .cons h r n => .non _ (OwnS.clear r)
end
end Gn

set_option Elab.async false
set_option linter.all false
set_option maxRecDepth 100000
set_option maxHeartbeats 4000000
namespace Gn
open PySem PySem.Spec PyProof.Rows L2
variable [Tbls]

section
variable {K : PySem.W.Frag} {cl : Cl} {b b' : Bs} {ρ ρ' : Rho} {σ : St} {H H1 : Hp} {fp : List Addr}
theorem SRf.hidok (h : SRf K b ρ σ H fp) : HidOk H (fp ++ b.frn) := h.ow.lists.app h.ho
theorem SRf.grow (h : SRf K b ρ σ H fp) (s : Ext H H1) : SRf K b ρ σ H1 fp := ⟨h.kp.trans s, h.nk, h.nf, h.ho.grow s, h.ow.keep (keep_grow h.hidok s), h.io, h.ln, s.tabs h.tb⟩
theorem SR.grow (h : SR K b ρ σ H) (s : Ext H H1) : SR K b ρ σ H1 := let ⟨fp, h⟩ := h; ⟨fp, h.grow s⟩
/-- the exception that a suite holds lies in what is kept -/
structure BX (K : PySem.W.Frag) (G : Gam) (cl : Cl) (b : Bs) : Prop where
  eT : b.T = cl.T
  hx : ∀ c fs, G.hx = some (c, fs) → (cl.xs, V.ref cl.xa) ∈ b.io ∧ ∃ vs, b.kept cl.xd = some (.xd ((cl.cf c).zip vs).reverse) ∧ Reps K (hide b.kept b.frn) fs vs
theorem BX.up {G : Gam} {k : Hp} (s : Sub b.kept k) (x : BX K G cl b) : BX K G cl { b with kept := k } := ⟨x.eT, fun c fs e => by
  obtain ⟨h1, vs, h2, h3⟩ := x.hx c fs e
  exact ⟨h1, vs, s _ _ h2, h3.sub (hide_mono fun a o n e => ⟨s a o e, n⟩)⟩⟩
theorem SRf.xr {G : Gam} (h : SRf K b ρ σ H fp) (x : BX K G cl b) : XR G cl K H b.frn σ := ⟨h.tb, fun c fs e => by
  obtain ⟨h1, vs, h2, h3⟩ := x.hx c fs e
  exact ⟨h.io _ h1, vs, h.kp _ _ h2, h3.sub (hide_mono fun a o n e => ⟨h.kp a o e, n⟩)⟩⟩
theorem SRf.xrd {G : Gam} (h : SRf K b ρ σ H fp) (x : BX K G cl b) : XR G cl K H (fp ++ b.frn) σ := ⟨h.tb, fun c fs e => by
  obtain ⟨h1, vs, h2, h3⟩ := x.hx c fs e
  refine ⟨h.io _ h1, vs, h.kp _ _ h2, h3.sub (hide_mono fun a o n e => ⟨h.kp a o e, fun z => ?_⟩)⟩
  rcases List.mem_append.mp z with z | z
  · rw [h.nk a z] at e; cases e
  · exact n z⟩
theorem SRf.vr {G : Gam} (h : SRf K b ρ σ H fp) (x : BX K G cl b) : VR G cl K H b.frn ρ σ := h.ow.vr h.ho (fun a ha => List.mem_append_right _ ha) h.nf (h.xr x)
theorem SRf.vrd {G : Gam} (h : SRf K b ρ σ H fp) (x : BX K G cl b) : VR G cl K H (fp ++ b.frn) (drop ρ) σ := h.ow.vrd (h.xrd x)
/-- a value that no slot has, f its own lists -/
structure New (K : PySem.W.Frag) (b : Bs) (ρ : Rho) (σ : St) (H : Hp) (fp : List Addr) (t : T) (v : V) (f : List Addr) : Prop where
  sr : SRf K b ρ σ H fp
  nk : ∀ a ∈ f, b.kept a = none
  np : ∀ a ∈ f, a ∉ fp
  nf : ∀ a ∈ f, a ∉ b.frn
  ow : Own K H (f ++ (fp ++ b.frn)) t v f
  os : OwnS K H (f ++ (fp ++ b.frn)) ρ σ fp
theorem kept_none {a : Addr} (h : Sub b.kept H) (e : H a = none) : b.kept a = none := by
  cases q : b.kept a with
  | none => rfl
  | some o =>
    obtain ⟨o', z⟩ := (h a o q).some
    rw [e] at z
    cases z
/-- a value just made is new -/
theorem New.fresh {t : T} {v : V} {f : List Addr} (h : SRf K b ρ σ H fp) (s : Ext H H1) (fr : ∀ a ∈ f, H a = none) (o : Own K H1 (f ++ (fp ++ b.frn)) t v f) : New K b ρ σ H1 fp t v f where
  sr := h.grow s
  nk := fun a ha => kept_none h.kp (fr a ha)
  np := fun a ha z => h.ow.lists.fresh (fr a ha) z
  nf := fun a ha z => h.ho.fresh (fr a ha) z
  ow := o
  os := h.ow.keep ⟨hide_mono fun a u n e => ⟨s a u e, fun z => by
    rcases List.mem_append.mp z with z | z
    · rw [fr a z] at e; cases e
    · exact n z⟩, fun a _ u e => s a u e, fun a _ e => s a _ e⟩
/-- from a new value: it is frozen -/
theorem New.frz {t : T} {v : V} {f : List Addr} (h : New K b ρ σ H fp t v f) : New K b ρ σ H fp (.fz t.d) v [] where
  sr := h.sr
  nk := fun _ z => nomatch z
  np := fun _ z => nomatch z
  nf := fun _ z => nomatch z
  ow := .fz (h.ow.rep (fun a ha => List.mem_append_right _ ha) h.sr.hidok fun a ha z => (List.mem_append.mp z).elim (h.np a ha) (h.nf a ha))
  os := h.sr.ow
theorem New.none (h : SRf K b ρ σ H fp) : New K b ρ σ H fp (.fz .none) .non [] := ⟨h, (fun _ z => nomatch z), (fun _ z => nomatch z), (fun _ z => nomatch z), .fz .non, h.ow⟩
/-- .. stored -/
theorem New.store {t : T} {v : V} {f : List Addr} {i : Nat} (h : New K b ρ σ H fp t v f) (hi : i < b.n) (ni : ∀ p ∈ b.io, p.1 ≠ i) : SR K b (ρ.set i (some t)) (σ.set i (some v)) H := by
  obtain ⟨f2, o2, s2⟩ := h.os.forget i (some v)
  obtain ⟨fq, oq, sq⟩ := OwnS.put o2 (by rw [h.sr.ow.length, h.sr.ln]; exact hi) h.ow fun a ha z => h.np a ha (s2 a z)
  rw [List.set_set] at oq
  refine ⟨fq, h.sr.kp, fun a ha => ?_, fun a ha => ?_, h.sr.ho, oq.keep (keep_less fun a ha => ?_), fun p hp => ?_, by rw [List.length_set]; exact h.sr.ln, h.sr.tb⟩
  · rcases (sq a).mp ha with z | z
    · exact h.nk a z
    · exact h.sr.nk a (s2 a z)
  · rcases (sq a).mp ha with z | z
    · exact h.nf a z
    · exact h.sr.nf a (s2 a z)
  · rcases List.mem_append.mp ha with z | z
    · rcases (sq a).mp z with z | z
      · exact List.mem_append_left _ z
      · exact List.mem_append_right _ (List.mem_append_left _ (s2 a z))
    · exact List.mem_append_right _ (List.mem_append_right _ z)
  · rw [List.getElem?_set_ne (Ne.symm (ni p hp))]
    exact h.sr.io p hp
/-- data just read, stored frozen -/
theorem SRf.storeD {d : D} {v : V} {i : Nat} (h : SRf K b ρ σ H fp) (r : Rep K (hide H (fp ++ b.frn)) d v) (hi : i < b.n) (ni : ∀ p ∈ b.io, p.1 ≠ i) : SR K b (ρ.set i (some (.fz d))) (σ.set i (some v)) H :=
  New.store (fp := fp) (f := []) ⟨h, (fun _ z => nomatch z), (fun _ z => nomatch z), (fun _ z => nomatch z), .fz r, h.ow⟩ hi ni
/-- .. as what is visible from some base -/
theorem SRf.storeB {B : Hp} {d : D} {v : V} {i : Nat} (h : SRf K b ρ σ H fp) (r : Rep K B d v) (hB : ∀ a o, B a = some o → b.kept a = some o ∧ a ∉ b.frn) (hi : i < b.n) (ni : ∀ p ∈ b.io, p.1 ≠ i) : SR K b (ρ.set i (some (.fz d))) (σ.set i (some v)) H :=
  h.storeD (r.sub fun a o e => by
    obtain ⟨k1, k2⟩ := hB a o e
    refine (h.kp a o k1).eq (hide_out fun z => ?_)
    rcases List.mem_append.mp z with z | z
    · rw [h.nk a z] at k1; cases k1
    · exact k2 z) hi ni
/-- a slot's list taken apart and put together again; t at v lies outside (what is taken out of the list) -/
theorem SRf.mut {t : T} {v : V} {f : List Addr} {hid g f2 : List Addr} {i : Nat} {a : Addr} {vs vs' : List V} {ts' : List T} (h : SRf K b ρ σ H fp) (e : H a = some (.lst vs)) (ei : σ[i]? = some (some (.ref a)))
    (os : OwnS K H hid (ρ.set i none) σ f2) (o : Owns K H hid ts' vs' g) (ov : Own K H hid t v f) (ah : a ∈ hid) (ag : a ∉ g) (a2 : a ∉ f2) (af : a ∉ f) (g2 : ∀ x ∈ g, x ∉ f2) (fg : ∀ x ∈ f, x ∉ g) (ff : ∀ x ∈ f, x ∉ f2)
    (sh : ∀ x, x ∈ f ∨ x = a ∨ x ∈ g ∨ x ∈ f2 ∨ x ∈ b.frn → x ∈ hid) (nk : ∀ x, x ∈ f ∨ x = a ∨ x ∈ g ∨ x ∈ f2 → b.kept x = none ∧ x ∉ b.frn) :
    ∃ fq, New K b (ρ.set i (some (.lst ts'))) σ (upd H a (.lst vs')) fq t v f := by
  have k1 : ∀ {fx : List Addr}, a ∉ fx → Keep H (upd H a (.lst vs')) hid hid fx := fun {fx} n => ⟨hide_mono fun x u nx ex => ⟨KeepO.of (by rw [upd_ne (fun z => nx (by rw [z]; exact ah))]; exact ex), nx⟩,
    fun x hx u ex => KeepO.of (by rw [upd_ne (fun z => n (by rw [← z]; exact hx))]; exact ex), fun x xs ex => by
      rw [upd_ne]
      · exact ex
      · rintro rfl
        rw [e] at ex
        cases ex⟩
  have li : i < ρ.length := by
    have := (List.getElem?_eq_some_iff.mp ei).1
    have l2 := os.length
    rw [List.length_set] at l2
    omega
  obtain ⟨fq, oq, sq⟩ := OwnS.put (os.keep (k1 a2)) li (t := .lst ts') (v := .ref a) (f1 := a :: g) (.lst upd_same ag (o.keep (k1 ag))) fun x hx z => by
    rcases List.mem_cons.mp hx with q | q
    · rw [q] at z; exact a2 z
    · exact g2 x q z
  have es : σ.set i (some (.ref a)) = σ := by
    obtain ⟨l, q⟩ := List.getElem?_eq_some_iff.mp ei
    rw [← q]
    simp
  rw [es] at oq
  have sq : ∀ x, x ∈ fq → x = a ∨ x ∈ g ∨ x ∈ f2 := fun x hx => by
    rcases (sq x).mp hx with z | z
    · rcases List.mem_cons.mp z with z | z
      · exact .inl z
      · exact .inr (.inl z)
    · exact .inr (.inr z)
  have ho2 : HidOk (upd H a (.lst vs')) b.frn := fun x hx => by
    have nx : x ≠ a := fun z => (nk x (.inr (.inl z))).2 hx
    obtain ⟨u, q, m⟩ := h.ho x hx
    exact ⟨u, by rw [upd_ne nx]; exact q, m⟩
  have kp2 : Ext b.kept (upd H a (.lst vs')) := ⟨fun x u q => by
    have nx : x ≠ a := fun z => by
      rw [(nk x (.inr (.inl z))).1] at q
      cases q
    exact (h.kp x u q).eq (upd_ne nx), fun t => Tabs.mut (upd_mut e) (h.kp.tab t)⟩
  have less : ∀ x, x ∈ f ++ (fq ++ b.frn) → x ∈ hid := fun x hx => by
    rcases List.mem_append.mp hx with z | z
    · exact sh x (.inl z)
    · rcases List.mem_append.mp z with z | z
      · exact sh x (.inr ((sq x z).elim .inl fun z => .inr (z.elim .inl fun z => .inr (.inl z))))
      · exact sh x (.inr (.inr (.inr (.inr z))))
  refine ⟨fq, ⟨kp2, fun x hx => (nk x (.inr (sq x hx))).1, fun x hx => (nk x (.inr (sq x hx))).2, ho2, oq.keep (keep_less fun x hx => less x (List.mem_append_right _ hx)), h.io, h.ln, Tabs.mut (upd_mut e) h.tb⟩, fun x hx => (nk x (.inl hx)).1, fun x hx z => ?_, fun x hx => (nk x (.inl hx)).2, (ov.keep (k1 af)).keep (keep_less less), oq.keep (keep_less less)⟩
  rcases sq x z with q | q | q
  · rw [q] at hx; exact af hx
  · exact fg x hx q
  · exact ff x hx q
end
/-! ### items of an owned list -/
section
variable {K : PySem.W.Frag} {H : Hp} {hid : List Addr}
theorem Owns.out : ∀ {ts : List T} {vs : List V} {fp : List Addr} {n : Nat} {t : T}, Owns K H hid ts vs fp → ts[n]? = some t →
    ∃ v f1 f2, vs[n]? = some v ∧ Own K H hid t v f1 ∧ Owns K H hid (ts.eraseIdx n) (vs.eraseIdx n) f2 ∧ (∀ a ∈ f1, a ∉ f2) ∧ ∀ a, a ∈ fp ↔ a ∈ f1 ∨ a ∈ f2
  | _, _, _, _, _, .nil, e => by simp at e
  | _, _, _, 0, _, .cons h r n, e => by
    simp at e
    subst e
    exact ⟨_, _, _, rfl, h, r, n, fun a => List.mem_append⟩
  | _, _, _, i + 1, _, .cons h r n, e => by
    obtain ⟨v, f1, f2, h1, h2, h3, h4, h5⟩ := Owns.out (n := i) r (by simpa using e)
    refine ⟨v, f1, _, by simpa using h1, h2, .cons h h3 fun a ha z => n a ha ((h5 a).mpr (.inr z)), fun a ha z => ?_, fun a => ?_⟩
    · rcases List.mem_append.mp z with z | z
      · exact n a z ((h5 a).mpr (.inl ha))
      · exact h4 a ha z
    · rw [List.mem_append, List.mem_append, h5 a]
      constructor
      · rintro (z | z | z)
        · exact .inr (.inl z)
        · exact .inl z
        · exact .inr (.inr z)
      · rintro (z | z | z)
        · exact .inr (.inl z)
        · exact .inl z
        · exact .inr (.inr z)
theorem Owns.setAt : ∀ {ts : List T} {vs : List V} {fp f : List Addr} {n : Nat} {t : T} {v : V}, Owns K H hid ts vs fp → Own K H hid t v f → (∀ a ∈ f, a ∉ fp) →
    ∃ fq, Owns K H hid (ts.set n t) (vs.set n v) fq ∧ ∀ a, a ∈ fq → a ∈ f ∨ a ∈ fp
  | _, _, _, _, _, _, _, .nil, _, _ => ⟨_, .nil, fun _ z => nomatch z⟩
  | _, _, _, _, 0, _, _, .cons h r n, o, k => ⟨_, .cons o r fun a ha z => k a ha (List.mem_append_right _ z), fun a ha => (List.mem_append.mp ha).elim .inl fun z => .inr (List.mem_append_right _ z)⟩
  | _, _, _, _, i + 1, _, _, .cons h r n, o, k => by
    obtain ⟨fq, h1, h2⟩ := Owns.setAt (n := i) r o fun a ha z => k a ha (List.mem_append_right _ z)
    refine ⟨_, .cons h h1 fun a ha z => ?_, fun a ha => ?_⟩
    · rcases h2 a z with q | q
      · exact k a q (List.mem_append_left _ ha)
      · exact n a ha q
    · rcases List.mem_append.mp ha with z | z
      · exact .inr (List.mem_append_left _ z)
      · rcases h2 a z with q | q
        · exact .inl q
        · exact .inr (List.mem_append_right _ q)
end
/-! ### terms, seen from the state -/
def MOut (K : PySem.W.Frag) (cl : Cl) (b : Bs) (W : WX) (ρ : Rho) (σ : St) (r : R T) (Q : VK) : Prop := match r with
  | .ok t => ∀ v H f fp, New K b ρ σ H fp t v f → Q v H
  | .ex c fs => ∀ H d, SR K b ρ σ H → ExR K cl H b.frn c fs d → W (.ref (cl.ca c)) (some d) σ H
  | .no => False
section
variable {K : PySem.W.Frag} {cl : Cl} {b b' : Bs} {ρ ρ' : Rho} {σ : St} {H H1 : Hp} {fp : List Addr} {W : WX} {G : Gam}
theorem ExR.less {hid hid' : List Addr} {c : Nat} {fs : List D} {d : Addr} (x : ExR K cl H hid c fs d) (s : ∀ a ∈ hid', a ∈ hid) : ExR K cl H hid' c fs d := by
  obtain ⟨vs, h1, h2⟩ := x
  exact ⟨vs, h1, h2.sub (hide_less s)⟩
theorem tP_of {p : P} {m : Md} {Q : VK} (h : SRf K b ρ σ H fp) (x : BX K G cl b) (q : MOut K cl b W ρ σ (p.evm G m ρ) Q) : tP K G cl W p σ H Q := by
  cases m with
  | dr =>
    refine ⟨drop ρ, fp ++ b.frn, h.hidok, h.vrd x, ?_⟩
    have q : MOut K cl b W ρ σ (p.ev G (drop ρ)) Q := q
    cases e : p.ev G (drop ρ) with
    | ok t =>
      rw [e] at q
      exact fun v H' f s fr o => q v H' f fp (New.fresh h s fr o)
    | ex c fs =>
      rw [e] at q
      exact fun H' d s x => q H' d ⟨fp, h.grow s⟩ (x.less fun a ha => List.mem_append_right _ ha)
    | no =>
      rw [e] at q
      exact q
  | lf =>
    refine ⟨ρ, b.frn, h.ho, h.vr x, ?_⟩
    have q : MOut K cl b W ρ σ (do
      let t ← p.ev G ρ
      if t.lf then .ok t else .no) Q := q
    cases e : p.ev G ρ with
    | ok t =>
      rw [e] at q
      have q : MOut K cl b W ρ σ (if t.lf then .ok t else .no) Q := q
      by_cases c : t.lf = true
      · rw [if_pos c] at q
        refine fun v H' f s fr o => q v H' f fp (New.fresh h s fr (o.lf (o.lists.app (h.hidok.grow s)) c))
      · rw [if_neg c] at q
        exact q.elim
    | ex c fs =>
      rw [e] at q
      exact fun H' d s x => q H' d ⟨fp, h.grow s⟩ x
    | no =>
      rw [e] at q
      exact q
/-- a term's data, all slots read -/
theorem tP_rd {p : P} {Q : VK} (h : SRf K b ρ σ H fp) (x : BX K G cl b) (q : match p.ev G ρ with
    | .ok t => ∀ v H', SRf K b ρ σ H' fp → Ext H H' → Rep K (hide H' b.frn) t.d v → Q v H'
    | .ex c fs => ∀ H d, SR K b ρ σ H → ExR K cl H b.frn c fs d → W (.ref (cl.ca c)) (some d) σ H
    | .no => False) : tP K G cl W p σ H Q := by
  refine ⟨ρ, b.frn, h.ho, h.vr x, ?_⟩
  cases e : p.ev G ρ with
  | ok t =>
    rw [e] at q
    exact fun v H' f s fr o => q v H' (h.grow s) s (o.seen h.ho s fr)
  | ex c fs =>
    rw [e] at q
    exact fun H' d s x => q H' d ⟨fp, h.grow s⟩ x
  | no =>
    rw [e] at q
    exact q
end
end Gn

set_option Elab.async false
set_option linter.all false
set_option maxRecDepth 100000
set_option maxHeartbeats 4000000
namespace Gn
open PySem PySem.Spec PyProof.Rows L2
variable [Tbls]

/-! ### a name given a term's value -/
def isLC : Expr → Bool
  | .ListComp _ _ _ _ | .SetComp _ _ _ _ | .DictComp _ _ _ _ _ => true
  | _ => false
theorem sw_not {e : Expr} (h : isLC e = false) (t : Option Expr) (l : Nat) (env : PySem.Env) : swapsWith e t l env = pure false := by
  cases e <;> first | rfl | cases h
section
variable {S : Sx} {G : Gam} {cl : Cl}
/-- the parts of a comprehension's check -/
theorem comp_parts {elt : P} {i : Nat} {k : IK} {its cond : List P} {sc scope : Scope} {X : Cx} {W : WX} {e0 : Expr} {gens : List Comprehension} {pos : Pos} (g : GX S G cl sc X W) (h : (P.comp elt i k its cond).chk S sc (.ListComp e0 gens scope pos) = true) :
    S.hot = false ∧ ∃ x px a ifs, gens = [⟨.Name x px, a, ifs, 0⟩] ∧ S.N[i]? = some x ∧ blkC S.N sc scope [(x, i)] = true ∧ locB scope x = true ∧ (∀ x, foldedSetIterable a X.env x = pure x) ∧ PI X (.Name x px) a (iG X.K G cl W k its) ∧
      (∀ X', GX S G cl scope X' (fun _ _ _ _ => False) → PE X' e0 (tP X'.K G cl (fun _ _ _ _ => False) elt)) ∧ ∀ X', GX S G cl scope X' (fun _ _ _ _ => False) → PTs X' ifs (tPts X'.K G cl (fun _ _ _ _ => False) cond) := by
  match gens, h with
  | [], h => exact cfalse h
  | g0 :: g1 :: rest, h => exact cfalse (by
      obtain ⟨tg, a, ifs, n⟩ := g0
      cases tg with
      | Name _ _ =>
        cases n with
        | ofNat m => cases m <;> exact h
        | negSucc m => exact h
      | _ => exact h)
  | [g0], h =>
    obtain ⟨tg, a, ifs, n⟩ := g0
    cases tg with
    | Name x px =>
      cases n with
      | ofNat m =>
        cases m with
        | succ m => exact cfalse h
        | zero =>
            obtain ⟨hh, h⟩ := b2 (show (!S.hot && ((decide (S.N[i]? = some x) && blkC S.N sc scope [(x, i)] && locB scope x) && (match iterArgs S sc k a with
              | some es => P.chks S its sc es
              | none => false) && (elt.chk S scope e0 && P.chkC S cond scope ifs))) = true from h)
            have hh : S.hot = false := by simpa using hh
            obtain ⟨h1, h2⟩ := b2 (show ((decide (S.N[i]? = some x) && blkC S.N sc scope [(x, i)] && locB scope x) && (match iterArgs S sc k a with
              | some es => P.chks S its sc es
              | none => false) && (elt.chk S scope e0 && P.chkC S cond scope ifs)) = true from h)
            obtain ⟨h1, h3⟩ := b2 h1
            obtain ⟨h1, h4⟩ := b2 h1
            obtain ⟨h1, h5⟩ := b2 h1
            obtain ⟨h6, h7⟩ := b2 h2
            cases ei : iterArgs S sc k a with
            | none => rw [ei] at h3; exact cfalse h3
            | some es =>
              rw [ei] at h3
              have pi : (∀ x, foldedSetIterable a X.env x = pure x) ∧ PI X (.Name x px) a (iG X.K G cl W k its) := by
                cases k with
                | seq =>
                  obtain ⟨c, rfl⟩ := iter_seq ei
                  match its, h3 with
                  | [], h3 => exact cfalse h3
                  | _ :: _ :: _, h3 => exact cfalse (by
                      obtain ⟨_, h8⟩ := b2 h3
                      exact (b2 h8).2)
                  | [p], h3 =>
                    obtain ⟨h8, h9⟩ := b2 (show (plainE a && (p.chk S sc a && true)) = true from h3)
                    exact ⟨plainFold c _, pi_gen ((P.sd p).pe g (b2 h9).1)⟩
                | rng1 =>
                  have hps := P.sounds its g h3
                  obtain ⟨p1, a1, p2, rfl, c1, c2, rfl⟩ := iter_rng1 ei
                  exact ⟨fun _ => rfl, snd_rng1 g c1 c2 (chks_plain h3 _ (by simp)) hps⟩
                | rng2 =>
                  have hps := P.sounds its g h3
                  obtain ⟨p1, a1, b1, p2, rfl, c1, c2, rfl⟩ := iter_rng2 ei
                  exact ⟨fun _ => rfl, snd_rng2 g c1 c2 (chks_plain h3 _ (by simp)) (chks_plain h3 _ (by simp)) hps⟩
              refine ⟨hh, x, px, a, ifs, rfl, of_decide_eq_true h1, h5, h4, pi.1, pi.2, fun X' g' => (P.sd elt).pe g' h6, fun X' g' => ?_⟩
              match cond, ifs, h7 with
              | [], [], _ => exact tsts_nil
              | [], _ :: _, h7 => exact cfalse h7
              | [_], [], h7 => exact cfalse h7
              | _ :: _ :: _, [], h7 => exact cfalse h7
              | [p], [c], h7 => exact tsts_one ((P.sd p).pt g' h7)
              | _ :: _ :: _, _ :: _, h7 => exact cfalse h7
              | [_], _ :: _ :: _, h7 => exact cfalse h7
      | negSucc m => exact cfalse h
    | _ => exact cfalse h
theorem chk_lc {p : P} {sc : Scope} {e : Expr} (h : p.chk S sc e = true) (l : isLC e = true) : ∃ elt i k its cond e0 gens scope pos, p = .comp elt i k its cond ∧ e = .ListComp e0 gens scope pos := by
  cases e with
  | ListComp e0 gens scope pos =>
    cases p with
    | comp elt i k its cond => exact ⟨_, _, _, _, _, _, _, _, _, rfl, rfl⟩
    | _ => exact cfalse h
  | SetComp _ _ _ _ => cases p <;> exact cfalse h
  | DictComp _ _ _ _ _ => cases p <;> exact cfalse h
  | _ => cases l
theorem PS.mono {X : Cx} {st : Stmt} {t t' : TS} (h : PS X st t) (k : ∀ D σ H, t' D σ H → t D σ H) : PS X st t' := ⟨fun pins s σ H D I q => h.run pins s σ H D I (k D σ H q)⟩
theorem PSs.mono {X : Cx} {st : List Stmt} {t t' : TS} (h : PSs X st t) (k : ∀ D σ H, t' D σ H → t D σ H) : PSs X st t' := ⟨fun pins s σ H D I q => h.run pins s σ H D I (k D σ H q)⟩
/-- name = e -/
theorem asgn {p : P} {j : Nat} {y : Str} {sc : Scope} {X : Cx} {W : WX} {e : Expr} {py spos : Pos} (g : GX S G cl sc X W) (h : p.chk S sc e = true) (hj : X.N[j]? = some y) (hy : Loc X.env.scope y) (hf : X.fn y = true) :
    PS X (.Assign [.Name y py] e spos) (tAsg (tP X.K G cl W p) (gName j)) := by
  have he := (P.sd p).pe g h
  cases l : isLC e with
  | false => exact ps_set g.nd hj hy he (sw_not l _ _ _) (.inl hf)
  | true =>
    obtain ⟨elt, i, k, its, cond, e0, gens, scope, pos, rfl, rfl⟩ := chk_lc h l
    have hs : swapsWith (.ListComp e0 gens scope pos) (some (.Name y py)) spos.line X.env = pure (X.env.blockKind == .function && X.env.kindOf y == some .local && py.line == pos.line && !(scope.names.any fun (n, k) => n == y && (k == .local || k == .cell))) := rfl
    cases sw : (X.env.blockKind == .function && X.env.kindOf y == some .local && py.line == pos.line && !(scope.names.any fun (n, k) => n == y && (k == .local || k == .cell))) with
    | false =>
      rw [sw] at hs
      exact ps_set g.nd hj hy he hs (.inl hf)
    | true =>
      rw [sw] at hs
      have hyl : X.env.scope.names.lookup y = some .local := by
        obtain ⟨h1, _⟩ := b2 sw
        obtain ⟨h1, _⟩ := b2 h1
        obtain ⟨_, h1⟩ := b2 h1
        have h1 : (X.env.scope.names.lookup y == some .local) = true := h1
        cases q : X.env.scope.names.lookup y with
        | none => rw [q] at h1; cases h1
        | some z =>
          rw [q] at h1
          cases z <;> first | rfl | cases h1
      obtain ⟨hh, x, px, a, ifs, rfl, h1, h2, h3, hfo, hi, hel, hc⟩ := comp_parts g h
      have blk : BlkOk X.N X.env.scope scope [(x, i)] := by
        have b := blkOk_by h2
        refine ⟨b.kind, b.uniq, by rw [g.N]; exact b.ix, fun y hy e => ?_, by rw [g.N]; exact b.own⟩
        rcases b.free y hy e with z | z
        · exact .inl (g.sc.cel _ z)
        · exact g.sc.fre _ z
      refine PS.mono (ps_setLc (g := gName i) (g.calm hh) g.nd hj hyl hs hi blk (fun s H C c fp => ?_) (fun s H C c fp => hc _ (g.blk hh s H C c fp)) (fun s H C c fp => hel _ (g.blk hh s H C c fp)) hfo) fun D σ H h => comp_post (g.cold hh) h
      exact pg_own g.nd (by rw [g.N]; exact h1) h3
end
end Gn

set_option Elab.async false
set_option linter.all false
set_option maxRecDepth 100000
set_option maxHeartbeats 4000000
namespace Gn
open PySem PySem.Spec PyProof.Rows L2
variable [Tbls]

/-! ### what a statement promises -/
structure Sy where
  x : Sx
  io : List Nat
  en : List (Str × Nat)
/-- an own exception class, called: what it makes -/
def tRs (cl : Cl) (c : Nat) (ta : TA) : St → Hp → XK → Prop := fun σ H Q => ta σ H fun vs H1 => vs.length = (cl.cf c).length ∧ ∀ H' d, Ext H1 H' → H' d = some (.xd ((cl.cf c).zip vs).reverse) → Q (.ref (cl.ca c)) (some d) H'
def MonoA (ta : TA) : Prop := ∀ σ H (Q Q' : List V → Hp → Prop), (∀ vs H, Q vs H → Q' vs H) → ta σ H Q → ta σ H Q'
def ExG (X : Cx) (cl : Cl) (c : Nat) (x : Str) (n : Nat) : Prop := (cl.cf c).length = n ∧ ∀ (e : Expr) (es : List Expr) (ta : TA) (p pos : Pos), Gl X x → (x == ("__debug__" : Str)) = false → MonoA ta → starEach (e :: es) X.env = (false, eval e X.env) :: starEach es X.env → (backTo pos (starEach es X.env)).any (·.1) = false →
  PA X (e :: es) ta → PMk X (.Call (.Name x p) (e :: es) [] pos) (tRs cl c ta)
structure SX (Y : Sy) (G : Gam) (cl : Cl) (sc : Scope) (X : Cx) (W : WX) : Prop extends GX Y.x G cl sc X W where
  po : PassesOwn (model X.prog X.w) X.A X.env X.xe
  fnt : ∀ x, X.fn x = true
  stk : X.stack = X.env :: X.outer
  frm : X.env.frame = some X.env.locals
  exn : Y.x.hot = false → ∀ (pn : List (Addr × Obj)) (xe : Value → Shared → Prop) (W' : WX), Takes (X.tr pn xe) W' → ∀ c x n, Y.en[c]? = some (x, n) → ExG (X.tr pn xe) cl c x n
  ecl : Y.x.hot = false → ∀ c, G.cok c = true → ClsF { Y.x with hot := true } G cl X c
  cnm : Y.x.hot = false → ∀ (k : Nat) (x : Str), Y.x.cn[k]? = some x → ∃ cv, CNm X x cv
  hfx : Y.x.hot = false → ∀ (a : Addr) (oe : Obj) (pn : List (Addr × Obj)), ∀ k x, Y.x.xnn[k]? = some x → FnXG (X.suite a ((a, oe) :: pn)) cl G.cok (G.fx k) x
  hfd : Y.x.hot = false → ∀ (a : Addr) (oe : Obj) (pn : List (Addr × Obj)), ∀ k x, Y.x.hnn[k]? = some x → FnXdG (X.suite a ((a, oe) :: pn)) (G.fh k) x
def SOut (K : PySem.W.Frag) (cl : Cl) (b : Bs) (W : WX) (E : Ends) : Res → Prop
  | .nx ρ => ∀ σ H, SR K b ρ σ H → E.nx σ H
  | .bk ρ => ∀ σ H, SR K b ρ σ H → E.bk σ H
  | .ct ρ => ∀ σ H, SR K b ρ σ H → E.ct σ H
  | .rt t ρ => ∀ v σ H f fp, New K b ρ σ H fp t v f → E.rt v H
  | .ex c fs ρ => ∀ σ H d, SR K b ρ σ H → ExR K cl H b.frn c fs d → W (.ref (cl.ca c)) (some d) σ H
  | .no => False
/-- what is fixed, and known -/
structure BN (K : PySem.W.Frag) (Y : Sy) (G : Gam) (cl : Cl) (b : Bs) : Prop where
  n : b.n = Y.x.N.length
  x : BX K G cl b
theorem BN.up {K : PySem.W.Frag} {Y : Sy} {G : Gam} {cl : Cl} {b : Bs} {k : Hp} (s : Sub b.kept k) (h : BN K Y G cl b) : BN K Y G cl { b with kept := k } := ⟨h.n, h.x.up s⟩
def tR' (K : PySem.W.Frag) (Y : Sy) (G : Gam) (cl : Cl) (W : WX) (m : Rho → Res) : TS := fun E σ H => ∃ b ρ, b.io.map Prod.fst = Y.io ∧ BN K Y G cl b ∧ SR K b ρ σ H ∧ SOut K cl b W E (m ρ)
abbrev tS (K : PySem.W.Frag) (Y : Sy) (G : Gam) (cl : Cl) (W : WX) (s : S) : TS := tR' K Y G cl W (S.run G s)
abbrev tSs (K : PySem.W.Frag) (Y : Sy) (G : Gam) (cl : Cl) (W : WX) (ss : List S) : TS := tR' K Y G cl W (S.runs G ss)

section
variable {K : PySem.W.Frag} {cl : Cl} {b : Bs} {ρ : Rho} {σ : St} {H H1 : Hp} {fp : List Addr} {W : WX} {G : Gam} {E : Ends} {r : Res}
/-- a wider base -/
theorem SRf.up {k : Hp} (s : Ext b.kept k) (h : SRf K { b with kept := k } ρ σ H fp) : SRf K b ρ σ H fp :=
  ⟨s.trans h.kp, fun a ha => none_sub s (h.nk a ha), h.nf, h.ho, h.ow, h.io, h.ln, h.tb⟩
theorem SR.up {k : Hp} (s : Ext b.kept k) (h : SR K { b with kept := k } ρ σ H) : SR K b ρ σ H := let ⟨fp, h⟩ := h; ⟨fp, h.up s⟩
theorem New.up {k : Hp} {t : T} {v : V} {f : List Addr} (s : Ext b.kept k) (h : New K { b with kept := k } ρ σ H fp t v f) : New K b ρ σ H fp t v f :=
  ⟨h.sr.up s, fun a ha => none_sub s (h.nk a ha), h.np, h.nf, h.ow, h.os⟩
theorem SOut.up {k : Hp} (s : Ext b.kept k) (h : SOut K cl b W E r) : SOut K cl { b with kept := k } W E r := by
  cases r with
  | nx ρ => exact fun σ H q => h σ H (q.up s)
  | bk ρ => exact fun σ H q => h σ H (q.up s)
  | ct ρ => exact fun σ H q => h σ H (q.up s)
  | rt t ρ => exact fun v σ H f fp q => h v σ H f fp (q.up s)
  | ex c fs ρ => exact fun σ H d q x => h σ H d (q.up s) x
  | no => exact h
/-- the loop's base: all but the slots' own lists -/
theorem SRf.inner (h : SRf K b ρ σ H fp) : Ext b.kept (hide H fp) ∧ SRf K { b with kept := hide H fp } ρ σ H fp :=
  ⟨⟨fun a o e => (h.kp a o e).eq (hide_out fun z => by
      rw [h.nk a z] at e
      cases e), fun t => Tabs.hide h.ow.lists (h.kp.tab t)⟩, ⟨hide_ext _ _, fun a ha => hide_in ha, h.nf, h.ho, h.ow, h.io, h.ln, h.tb⟩⟩
theorem SOut.bind {α : Type} {r : R α} {f : α → Res} (h : SOut K cl b W E (r.bindR ρ f)) : match r with
    | .ok a => SOut K cl b W E (f a)
    | .ex c fs => SOut K cl b W E (.ex c fs ρ)
    | .no => False := by
  cases r <;> exact h
theorem SOut.get {α : Type} {r : R α} {f : α → Res} (h : SOut K cl b W E (r.bindR ρ f)) (n : NoEx r) : ∃ a, r = .ok a ∧ SOut K cl b W E (f a) := by
  cases r with
  | ok a => exact ⟨a, rfl, h⟩
  | ex c fs => exact absurd rfl (n c fs)
  | no => exact h.elim
/-- the value's wish from the statement's -/
theorem SOut.evm {r : R T} {f : T → Res} {Q : VK} (h : SOut K cl b W E (r.bindR ρ f)) (hx : SRf K b ρ σ H fp) (k : ∀ t v H f' fp, New K b ρ σ H fp t v f' → SOut K cl b W E (f t) → Q v H) : MOut K cl b W ρ σ r Q := by
  cases r with
  | ok t => exact fun v H f' fp n => k t v H f' fp n h
  | ex c fs => exact fun H d sr x => h σ H d sr x
  | no => exact h
/-- a test's -/
theorem tPt_of {p : P} {f : Bool → Res} {Q : Bool → Hp → Prop} (h : SRf K b ρ σ H fp) (x : BX K G cl b) (q : SOut K cl b W E ((p.tst G ρ).bindR ρ f)) (k : ∀ c H', SRf K b ρ σ H' fp → SOut K cl b W E (f c) → Q c H') : tPt K G cl W p σ H Q := by
  refine ⟨ρ, b.frn, h.ho, h.vr x, ?_⟩
  cases e : p.tst G ρ with
  | ok c =>
    rw [e] at q
    exact fun H' s => k c H' (h.grow s) q
  | ex c fs =>
    rw [e] at q
    exact fun H' d s x => q σ H' d ⟨fp, h.grow s⟩ x
  | no =>
    rw [e] at q
    exact q.elim
/-- data's: all slots are read -/
theorem tP_rdS {p : P} {f : T → Res} {Q : VK} (h : SRf K b ρ σ H fp) (x : BX K G cl b) (q : SOut K cl b W E ((p.ev G ρ).bindR ρ f)) (k : ∀ t v H', SRf K b ρ σ H' fp → Ext H H' → Rep K (hide H' b.frn) t.d v → SOut K cl b W E (f t) → Q v H') : tP K G cl W p σ H Q := by
  refine tP_rd h x ?_
  cases e : p.ev G ρ with
  | ok t =>
    rw [e] at q
    exact fun v H' sr s r => k t v H' sr s r q
  | ex c fs =>
    rw [e] at q
    exact fun H d sr x => q σ H d sr x
  | no =>
    rw [e] at q
    exact q.elim
end

/-! ### the rules, one for each statement -/
theorem loc_of {X : Cx} {sc : Scope} {x : Str} (a : Agr sc X.env.scope) (h : locB sc x = true) : Loc X.env.scope x := by
  unfold locB at h
  split at h
  · exact .inl (a.loc x (by assumption))
  · exact .inr (a.cel x (by assumption))
  · cases h
/-- slot i is x's, it may be given another object -/
def wr (Y : Sy) (sc : Scope) (i : Nat) (x : Str) : Bool := decide (Y.x.N[i]? = some x) && locB sc x && !Y.io.contains i
def rd (Y : Sy) (sc : Scope) (i : Nat) (x : Str) : Bool := decide (Y.x.N[i]? = some x) && visB sc x && okName x
section
variable {Y : Sy} {G : Gam} {cl : Cl} {sc : Scope} {X : Cx} {W : WX}
theorem wr_of {i : Nat} {x : Str} (g : SX Y G cl sc X W) (h : wr Y sc i x = true) : X.N[i]? = some x ∧ Loc X.env.scope x ∧ i < Y.x.N.length ∧ ∀ {b : Bs}, b.io.map Prod.fst = Y.io → ∀ p ∈ b.io, p.1 ≠ i := by
  obtain ⟨h1, h2⟩ := b2 h
  obtain ⟨h1, h3⟩ := b2 h1
  have h1 := of_decide_eq_true h1
  refine ⟨by rw [g.N]; exact h1, loc_of g.sc h3, (List.getElem?_eq_some_iff.mp h1).1, fun {b} e p hp z => ?_⟩
  have : i ∈ Y.io := by rw [← e, ← z]; exact List.mem_map_of_mem hp
  simp [this] at h2
theorem rd_of {i : Nat} {x : Str} {pos : Pos} (g : SX Y G cl sc X W) (h : rd Y sc i x = true) : PE X (.Name x pos) (tVar i) := by
  obtain ⟨h1, h2⟩ := b2 h
  obtain ⟨h1, h3⟩ := b2 h1
  obtain ⟨k1, k2, _⟩ := okN h2
  exact pe_var (by rw [g.N]; exact of_decide_eq_true h1) (vis_of g.sc h3) k1 k2
/-- at a statement: the slots' lists -/
theorem at_tR {m : Rho → Res} {E : Ends} {σ : St} {H : Hp} {Z : Prop} (h : tR' X.K Y G cl W m E σ H) (k : ∀ b ρ fp, b.io.map Prod.fst = Y.io → BN X.K Y G cl b → SRf X.K b ρ σ H fp → SOut X.K cl b W E (m ρ) → Z) : Z := by
  obtain ⟨b, ρ, e, n, ⟨fp, sr⟩, q⟩ := h
  exact k b ρ fp e n sr q
theorem st_asg {i : Nat} {p : P} {m : Md} {own : Bool} {x : Str} {e : Expr} {px pos : Pos} (g : SX Y G cl sc X W) (hw : wr Y sc i x = true) (hp : p.chk Y.x sc e = true) : PS X (.Assign [.Name x px] e pos) (tS X.K Y G cl W (.asg i p m own)) := by
  obtain ⟨h1, h2, h3, h4⟩ := wr_of g hw
  refine PS.mono (asgn g.toGX hp h1 h2 (g.fnt x)) fun E σ H h => at_tR h fun b ρ fp ei en sr q => ?_
  have q : SOut X.K cl b W E ((p.evm G m ρ).bindR ρ fun t => .nx (ρ.set i (some (if own then t else .fz t.d)))) := q
  refine tP_of (m := m) sr en.x (q.evm sr fun t v H f fp n q => ?_)
  cases own with
  | true => exact q _ _ (n.store (by rw [en.n]; exact h3) (h4 ei))
  | false => exact q _ _ (n.frz.store (by rw [en.n]; exact h3) (h4 ei))
theorem st_expr {p : P} {e : Expr} {pos : Pos} (g : SX Y G cl sc X W) (hl : isLC e = false) (hp : p.chk Y.x sc e = true) : PS X (.Expr e pos) (tS X.K Y G cl W (.expr p)) := by
  refine PS.mono (ps_expr ((P.sd p).pe g.toGX hp) (sw_not hl _ _ _)) fun E σ H h => at_tR h fun b ρ fp ei en sr q => ?_
  have q : SOut X.K cl b W E ((p.ev G ρ).bindR ρ fun _ => .nx ρ) := q
  exact tP_rdS sr en.x q fun t v H' sr s r q => q _ _ ⟨fp, sr⟩
theorem st_ite {c : P} {a d : List S} {e : Expr} {ps qs : List Stmt} {pos : Pos} (g : SX Y G cl sc X W) (hp : c.chk Y.x sc e = true) (ha : PSs X ps (tSs X.K Y G cl W a)) (hb : PSs X qs (tSs X.K Y G cl W d)) : PS X (.If e ps qs pos) (tS X.K Y G cl W (.ite c a d)) := by
  refine PS.mono (ps_if ((P.sd c).pt g.toGX hp) ha hb) fun E σ H h => at_tR h fun b ρ fp ei en sr q => ?_
  have q : SOut X.K cl b W E ((c.tst G ρ).bindR ρ fun z => if z then S.runs G a ρ else S.runs G d ρ) := q
  refine tPt_of sr en.x q fun z H' sr q => ?_
  cases z with
  | true => exact ⟨b, ρ, ei, en, ⟨fp, sr⟩, q⟩
  | false => exact ⟨b, ρ, ei, en, ⟨fp, sr⟩, q⟩
theorem st_nil : PSs X [] (tSs X.K Y G cl W []) := PSs.mono pss_nil fun E σ H h => at_tR h fun b ρ fp ei en sr q => q _ _ ⟨fp, sr⟩
theorem st_cons {s : S} {ss : List S} {st : Stmt} {sts : List Stmt} (h1 : PS X st (tS X.K Y G cl W s)) (h2 : PSs X sts (tSs X.K Y G cl W ss)) : PSs X (st :: sts) (tSs X.K Y G cl W (s :: ss)) := by
  refine PSs.mono (pss_cons h1 h2) fun E σ H h => at_tR h fun b ρ fp ei en sr q => ?_
  have q : SOut X.K cl b W E (match S.run G s ρ with
    | .nx ρ' => S.runs G ss ρ'
    | r => r) := q
  refine ⟨b, ρ, ei, en, ⟨fp, sr⟩, ?_⟩
  cases e : S.run G s ρ with
  | nx ρ' =>
    rw [e] at q
    exact fun σ H sr => ⟨b, ρ', ei, en, sr, q⟩
  | bk ρ' => rw [e] at q; exact q
  | ct ρ' => rw [e] at q; exact q
  | rt t ρ' => rw [e] at q; exact q
  | ex c fs ρ' => rw [e] at q; exact q
  | no => rw [e] at q; exact q
theorem st_pas {pos : Pos} : PS X (.Pass pos) (tS X.K Y G cl W .pas) := PS.mono ps_pass fun E σ H h => at_tR h fun b ρ fp ei en sr q => q _ _ ⟨fp, sr⟩
theorem st_brk {pos : Pos} : PS X (.Break pos) (tS X.K Y G cl W .brk) := PS.mono ps_break fun E σ H h => at_tR h fun b ρ fp ei en sr q => q _ _ ⟨fp, sr⟩
theorem st_cnt {pos : Pos} : PS X (.Continue pos) (tS X.K Y G cl W .cnt) := PS.mono ps_continue fun E σ H h => at_tR h fun b ρ fp ei en sr q => q _ _ ⟨fp, sr⟩
theorem st_retN {pos : Pos} : PS X (.Return none pos) (tS X.K Y G cl W .retN) := PS.mono ps_retN fun E σ H h => at_tR h fun b ρ fp ei en sr q => q _ _ _ _ _ (New.none sr)
theorem st_ret {p : P} {m : RM} {e : Expr} {pos : Pos} (g : SX Y G cl sc X W) (hp : p.chk Y.x sc e = true) : PS X (.Return (some e) pos) (tS X.K Y G cl W (.ret p m)) := by
  refine PS.mono (ps_ret ((P.sd p).pe g.toGX hp)) fun E σ H h => at_tR h fun b ρ fp ei en sr q => ?_
  cases m with
  | dr =>
    have q : SOut X.K cl b W E ((p.evm G .dr ρ).bindR ρ fun t => .rt t ρ) := q
    exact tP_of (m := .dr) sr en.x (q.evm sr fun t v H f fp n q => q _ _ _ _ _ n)
  | lf =>
    have q : SOut X.K cl b W E ((p.evm G .lf ρ).bindR ρ fun t => .rt t ρ) := q
    exact tP_of (m := .lf) sr en.x (q.evm sr fun t v H f fp n q => q _ _ _ _ _ n)
  | full =>
    have q : SOut X.K cl b W E ((p.ev G ρ).bindR ρ fun t => .rt t (ρ.map fun _ => none)) := q
    refine ⟨ρ, b.frn, sr.ho, sr.vr en.x, ?_⟩
    cases e : p.ev G ρ with
    | ok t =>
      rw [e] at q
      intro v H' f s fr o
      refine q v σ H' f [] ⟨⟨sr.kp.trans s, (fun _ z => nomatch z), (fun _ z => nomatch z), sr.ho.grow s, ?_, sr.io, sr.ln, s.tabs sr.tb⟩, fun a ha => kept_none sr.kp (fr a ha), (fun _ _ z => nomatch z), fun a ha z => sr.ho.fresh (fr a ha) z, o, ?_⟩
      · exact (sr.grow s).ow.clear.keep ⟨hide_less fun a ha => List.mem_append_right _ ha, (fun _ z => nomatch z), fun _ _ z => z⟩
      · refine sr.ow.clear.keep ⟨hide_mono fun a u n e => ⟨s a u e, fun z => ?_⟩, (fun _ z => nomatch z), fun a xs z => s a _ z⟩
        rcases List.mem_append.mp z with z | z
        · rw [fr a z] at e; cases e
        · exact n (List.mem_append_right _ z)
    | ex c fs =>
      rw [e] at q
      exact fun H' d s x => q σ H' d ⟨fp, sr.grow s⟩ x
    | no =>
      rw [e] at q
      exact q.elim
theorem st_retm {i : Nat} {x : Str} {px pos : Pos} (g : SX Y G cl sc X W) (hr : rd Y sc i x = true) : PS X (.Return (some (.Name x px)) pos) (tS X.K Y G cl W (.retm i)) := by
  refine PS.mono (ps_ret (rd_of g hr)) fun E σ H h => at_tR h fun b ρ fp ei en sr q => ?_
  have q : SOut X.K cl b W E ((slotT ρ i).bindR ρ fun t => .rt t (ρ.set i none)) := q
  obtain ⟨t, e, q⟩ := q.get (slotT_nx _ _)
  obtain ⟨v, f1, f2, e1, o1, o2, ds, iff⟩ := sr.ow.take (slotT_ok e)
  have less : ∀ a, a ∈ f1 ++ (f2 ++ b.frn) → a ∈ fp ++ b.frn := fun a ha => by
    rcases List.mem_append.mp ha with z | z
    · exact List.mem_append_left _ ((iff a).mpr (.inl z))
    · rcases List.mem_append.mp z with z | z
      · exact List.mem_append_left _ ((iff a).mpr (.inr z))
      · exact List.mem_append_right _ z
  exact ⟨v, e1, q v σ H f1 f2 ⟨⟨sr.kp, fun a ha => sr.nk a ((iff a).mpr (.inr ha)), fun a ha => sr.nf a ((iff a).mpr (.inr ha)), sr.ho, o2.keep (keep_less fun a ha => less a (List.mem_append_right _ ha)), sr.io, sr.ln, sr.tb⟩,
    fun a ha => sr.nk a ((iff a).mpr (.inl ha)), fun a ha => ds a ha, fun a ha => sr.nf a ((iff a).mpr (.inl ha)), o1.keep (keep_less less), o2.keep (keep_less less)⟩⟩
theorem st_aug {i : Nat} {o : BinO} {p : P} {x : Str} {e : Expr} {px pos : Pos} (g : SX Y G cl sc X W) (hw : wr Y sc i x = true) (ho : o = .add ∨ o = .sub) (hp : p.chk Y.x sc e = true) : PS X (.AugAssign (.Name x px) o.op e pos) (tS X.K Y G cl W (.aug i o p)) := by
  obtain ⟨h1, h2, h3, h4⟩ := wr_of g hw
  have key : ∀ (f : Int → Int → Int), (∀ (a : Int) (d : D) (n : Int), augD o a d = .ok n → ∃ c, d = .int c ∧ n = f a c) → ∀ E σ H, tS X.K Y G cl W (.aug i o p) E σ H → tAug i (tP X.K G cl W p) (ipI f) E σ H := fun f hf E σ H h => at_tR h fun b ρ fp ei en sr q => by
    have q : SOut X.K cl b W E ((slotI ρ i).bindR ρ fun a => (p.ev G ρ).bindR ρ fun t => (augD o a t.d).bindR ρ fun n => .nx (ρ.set i (some (.fz (.int n))))) := q
    obtain ⟨a, e, q⟩ := q.get (slotI_nx _ _)
    obtain ⟨v, e1, r1⟩ := (sr.vr en.x).get i _ (slotI_ok e)
    have r1 : Rep X.K (hide H b.frn) (.int a) v := r1
    cases r1
    refine ⟨_, e1, tP_rdS sr en.x q fun t v H' sr s r q => ?_⟩
    obtain ⟨n, e2, q⟩ := q.get (augD_nx _ _ _)
    obtain ⟨c, e3, rfl⟩ := hf _ _ _ e2
    rw [e3] at r
    cases r
    exact ⟨a, c, rfl, rfl, q _ _ (sr.storeD (.int _) (by rw [en.n]; exact h3) (h4 ei))⟩
  rcases ho with rfl | rfl
  · exact PS.mono (ps_aug g.nd h1 h2 ((P.sd p).pe g.toGX hp) ip_add (.inl (g.fnt x))) (key _ fun a d n h => by cases d <;> cases h <;> exact ⟨_, rfl, rfl⟩)
  · exact PS.mono (ps_aug g.nd h1 h2 ((P.sd p).pe g.toGX hp) ip_sub (.inl (g.fnt x))) (key _ fun a d n h => by cases d <;> cases h <;> exact ⟨_, rfl, rfl⟩)
end
end Gn

set_option Elab.async false
set_option linter.all false
set_option maxRecDepth 100000
set_option maxHeartbeats 4000000
namespace Gn
open PySem PySem.Spec PyProof.Rows L2
variable [Tbls]

section
variable {K : PySem.W.Frag} {b : Bs} {ρ : Rho} {σ : St} {H H1 : Hp} {fp : List Addr} {t t' : T} {y v' : V} {f f' : List Addr}
theorem New.grow (n : New K b ρ σ H fp t y f) (s : Ext H H1) : New K b ρ σ H1 fp t y f where
  sr := n.sr.grow s
  nk := n.nk
  np := n.np
  nf := n.nf
  ow := n.ow.keep (keep_grow (n.ow.lists.app n.sr.hidok) s)
  os := n.os.keep (keep_grow (n.ow.lists.app n.sr.hidok) s)
/-- a slot's list, looked into -/
structure Look (K : PySem.W.Frag) (b : Bs) (ρ : Rho) (σ : St) (H : Hp) (fp f : List Addr) (i : Nat) (ts : List T) (a : Addr) (vs : List V) (g f2 : List Addr) : Prop where
  ei : σ[i]? = some (some (.ref a))
  ea : H a = some (.lst vs)
  ag : a ∉ g
  o : Owns K H (f ++ (fp ++ b.frn)) ts vs g
  os : OwnS K H (f ++ (fp ++ b.frn)) (ρ.set i none) σ f2
  a2 : a ∉ f2
  g2 : ∀ x ∈ g, x ∉ f2
  iff : ∀ x, x ∈ fp ↔ x = a ∨ x ∈ g ∨ x ∈ f2
theorem New.look {i : Nat} {ts : List T} (n : New K b ρ σ H fp t y f) (e : ρ[i]? = some (some (.lst ts))) : ∃ a vs g f2, Look K b ρ σ H fp f i ts a vs g f2 := by
  obtain ⟨v, f1, f2, e1, o1, o2, ds, iff⟩ := n.os.take e
  cases o1 with
  | @lst a vs _ g ea ag o =>
    refine ⟨a, vs, g, f2, e1, ea, ag, o, o2, ds a (by simp), fun x hx => ds x (by simp [hx]), fun x => ?_⟩
    rw [iff x, List.mem_cons]
    constructor
    · rintro ((z | z) | z)
      · exact .inl z
      · exact .inr (.inl z)
      · exact .inr (.inr z)
    · rintro (z | z | z)
      · exact .inl (.inl z)
      · exact .inl (.inr z)
      · exact .inr z
/-- .. and put back otherwise -/
theorem New.back {i : Nat} {ts ts' : List T} {a : Addr} {vs vs' : List V} {g g' f2 : List Addr} (n : New K b ρ σ H fp t y f) (l : Look K b ρ σ H fp f i ts a vs g f2) (o : Owns K H (f ++ (fp ++ b.frn)) ts' vs' g') (gs : ∀ x ∈ g', x ∈ f ∨ x ∈ g)
    (ov : Own K H (f ++ (fp ++ b.frn)) t' v' f') (fs : ∀ x ∈ f', x ∈ f ∨ x ∈ g) (ds : ∀ x ∈ f', x ∉ g') : ∃ fq, New K b (ρ.set i (some (.lst ts'))) σ (upd H a (.lst vs')) fq t' v' f' := by
  have afp : a ∈ fp := (l.iff a).mpr (.inl rfl)
  have nin : ∀ {q : List Addr}, (∀ x ∈ q, x ∈ f ∨ x ∈ g) → a ∉ q := fun {q} k z => (k a z).elim (fun z => n.np a z afp) l.ag
  have n2 : ∀ {q : List Addr}, (∀ x ∈ q, x ∈ f ∨ x ∈ g) → ∀ x ∈ q, x ∉ f2 := fun {q} k x hx z => (k x hx).elim (fun w => n.np x w ((l.iff x).mpr (.inr (.inr z)))) fun w => l.g2 x w z
  have inh : ∀ x, x ∈ f ∨ x ∈ fp ∨ x ∈ b.frn → x ∈ f ++ (fp ++ b.frn) := fun x hx => by
    rcases hx with z | z | z
    · exact List.mem_append_left _ z
    · exact List.mem_append_right _ (List.mem_append_left _ z)
    · exact List.mem_append_right _ (List.mem_append_right _ z)
  have all : ∀ x, x ∈ f' ∨ x = a ∨ x ∈ g' ∨ x ∈ f2 → x ∈ f ∨ x ∈ fp := fun x hx => by
    rcases hx with z | z | z | z
    · exact (fs x z).elim .inl fun w => .inr ((l.iff x).mpr (.inr (.inl w)))
    · exact .inr (by rw [z]; exact afp)
    · exact (gs x z).elim .inl fun w => .inr ((l.iff x).mpr (.inr (.inl w)))
    · exact .inr ((l.iff x).mpr (.inr (.inr z)))
  refine SRf.mut n.sr l.ea l.ei l.os o ov (inh a (.inr (.inl afp))) (nin gs) l.a2 (nin fs) (n2 gs) ds (n2 fs) (fun x hx => ?_) fun x hx => ?_
  · rcases hx with z | z | z | z | z
    · exact inh x ((all x (.inl z)).elim .inl fun w => .inr (.inl w))
    · exact inh x ((all x (.inr (.inl z))).elim .inl fun w => .inr (.inl w))
    · exact inh x ((all x (.inr (.inr (.inl z)))).elim .inl fun w => .inr (.inl w))
    · exact inh x ((all x (.inr (.inr (.inr z)))).elim .inl fun w => .inr (.inl w))
    · exact inh x (.inr (.inr z))
  · rcases all x hx with z | z
    · exact ⟨n.nk x z, n.nf x z⟩
    · exact ⟨n.sr.nk x z, n.sr.nf x z⟩
theorem SR.frz (h : SR K b ρ σ H) (i : Nat) : SR K b (ρ.set i (freezeT (ρ[i]?.getD none))) σ H := by
  obtain ⟨fp, h⟩ := h
  cases e : ρ[i]? with
  | none => exact ⟨fp, by rw [List.set_eq_of_length_le (by simpa using e)]; exact h⟩
  | some o =>
    cases o with
    | none =>
      obtain ⟨l, q⟩ := List.getElem?_eq_some_iff.mp e
      have : ρ.set i none = ρ := by rw [← q]; simp
      exact ⟨fp, by show SRf K b (ρ.set i none) σ H fp; rw [this]; exact h⟩
    | some t =>
      obtain ⟨v, f1, f2, e1, o1, o2, ds, iff⟩ := h.ow.take e
      have less : ∀ a, a ∈ f2 ++ b.frn → a ∈ fp ++ b.frn := fun a ha => by
        rcases List.mem_append.mp ha with z | z
        · exact List.mem_append_left _ ((iff a).mpr (.inr z))
        · exact List.mem_append_right _ z
      have o2' := o2.keep (keep_less less)
      obtain ⟨fq, oq, sq⟩ := OwnS.put (f1 := []) (t := .fz t.d) (v := v) o2' ((List.getElem?_eq_some_iff.mp e).1) (.fz (o1.rep less (o2.lists.app h.ho) fun a ha z => (List.mem_append.mp z).elim (ds a ha) (h.nf a ((iff a).mpr (.inl ha))))) fun _ z => nomatch z
      have es : σ.set i (some v) = σ := by
        obtain ⟨l, q⟩ := List.getElem?_eq_some_iff.mp e1
        rw [← q]
        simp
      rw [es] at oq
      have sq : ∀ a ∈ fq, a ∈ f2 := fun a ha => ((sq a).mp ha).elim (fun z => nomatch z) id
      refine ⟨fq, h.kp, fun a ha => h.nk a ((iff a).mpr (.inr (sq a ha))), fun a ha => h.nf a ((iff a).mpr (.inr (sq a ha))), h.ho, oq.keep (keep_less fun a ha => ?_), h.io, h.ln, h.tb⟩
      rcases List.mem_append.mp ha with z | z
      · exact List.mem_append_left _ (sq a z)
      · exact List.mem_append_right _ z
end
theorem few1 {e : Expr} {env : PySem.Env} {cpos : Pos} (h : plainE e = true) : ((backTo cpos (starEach (e :: []) env)).all (fun x => !x.1) && (backToKw cpos (keywordEach [] env)).all (fun x => x.1.isSome)
      && decide ((e :: ([] : List Expr)).length + ([] : List Keyword).length + (if ([] : List Keyword).isEmpty then 0 else 1) < 30)) = true := by
  rw [star_of h]
  rfl
section
variable {Y : Sy} {G : Gam} {cl : Cl} {sc : Scope} {X : Cx} {W : WX}
theorem st_app {i : Nat} {p : P} {m : Md} {x : Str} {e : Expr} {px ap cp pos : Pos} (g : SX Y G cl sc X W) (hr : rd Y sc i x = true) (pl : plainE e = true) (hl : (ap.endLine == cp.line) = true) (hp : p.chk Y.x sc e = true) :
    PS X (.Expr (.Call (.Attribute (.Name x px) ("append" : Str) ap) [e] [] cp) pos) (tS X.K Y G cl W (.app i p m)) := by
  refine PS.mono (ps_expr (pe_bm PySem.F.plainAttrs_list PySem.F.slot_list_append PySem.F.type_list_append mt_append (rd_of g hr) (pa_cons ((P.sd p).pe g.toGX hp) pa_nil (star_of pl [] _)) rfl (few1 pl) hl (star_of pl [] _) rfl)) fun E σ H h => at_tR h fun b ρ fp ei en sr q => ?_
  have q : SOut X.K cl b W E ((slotL ρ i).bindR ρ fun ts => (p.evm G m ρ).bindR ρ fun t => if ts.length < sizeLine then .nx (ρ.set i (some (.lst (ts ++ [t])))) else .no) := q
  obtain ⟨ts, e1, q⟩ := q.get (slotL_nx _ _)
  have e1 := slotL_ok e1
  obtain ⟨a, vs, g1, f1, l⟩ := (New.none sr).look e1
  refine ⟨_, l.ei, .inl ⟨rfl, _, SqL.of l.ea⟩, tP_of (m := m) sr en.x (q.evm sr fun t y H2 f fp2 n q => ?_)⟩
  obtain ⟨a2, vs2, g2, f2, l2⟩ := n.look e1
  have ea : a2 = a := by
    have := l.ei.symm.trans l2.ei
    cases this
    rfl
  subst ea
  by_cases c : ts.length < sizeLine
  · rw [if_pos c] at q
    refine ⟨_, vs2, y, rfl, rfl, l2.ea, by rw [l2.o.length]; exact c, ?_⟩
    have dis : ∀ x ∈ g2, x ∉ f := fun x hx z => n.np x z ((l2.iff x).mpr (.inr (.inl hx)))
    obtain ⟨fq, n2⟩ := n.back l2 (t' := .fz .none) (v' := .non) (f' := []) (l2.o.append (.cons n.ow .nil fun _ _ z => nomatch z) fun x hx z => dis x hx (by simpa using z)) (fun x hx => by
      rcases List.mem_append.mp hx with z | z
      · exact .inr z
      · exact .inl (by simpa using z)) (.fz .non) (fun _ z => nomatch z) fun _ z => nomatch z
    exact q _ _ ⟨fq, n2.sr⟩
  · rw [if_neg c] at q
    exact q.elim
theorem asg_sub {o i : Expr} {pos : Pos} {env : PySem.Env} (h : plainE i = true) (v : Value) : assign (.Subscript o i pos) env v = (do
      let ov ← holding [v] (eval o env)
      let iv ← holding [v, ov] (eval i env)
      standAt pos
      holding [v, ov, iv] (setItem ov iv v)
      release [v, ov, iv] []) := by
  cases i <;> first | rfl | cases h
theorem aug_sub {i : Expr} (h : plainE i = true) (ov iv new : Value) : augStore i ov iv new = (do holding [new, ov, iv] (setItem ov iv new); release [new, ov, iv] []; pure .next) := by
  cases i <;> first | rfl | cases h
theorem st_updt {i : Nat} {q p : P} {m : Md} {x : Str} {e a : Expr} {px tp pos : Pos} (g : SX Y G cl sc X W) (hr : rd Y sc i x = true) (pl : plainE a = true) (hq : q.chk Y.x sc a = true) (hp : p.chk Y.x sc e = true) :
    PS X (.Assign [.Subscript (.Name x px) a tp] e pos) (tS X.K Y G cl W (.updt i q p m)) := by
  refine PS.mono (ps_asg ((P.sd p).pe g.toGX hp) (pg_sub (rd_of g hr) ((P.sd q).pe g.toGX hq) set_list fun v => asg_sub pl v) (by cases e <;> rfl) (by cases e <;> rfl) rfl) fun E σ H h => at_tR h fun b ρ fp ei en sr z => ?_
  have z : SOut X.K cl b W E ((slotL ρ i).bindR ρ fun ts => (p.evm G m ρ).bindR ρ fun t => (q.ev G ρ).bindR ρ fun u => (ixD ts.length u.d).bindR ρ fun j => .nx (ρ.set i (some (.lst (ts.set j t))))) := z
  obtain ⟨ts, e1, z⟩ := z.get (slotL_nx _ _)
  have e1 := slotL_ok e1
  refine tP_of (m := m) sr en.x (z.evm sr fun t y H2 f fp2 n z => ?_)
  obtain ⟨a1, vs1, g1, f1, l1⟩ := n.look e1
  refine ⟨_, l1.ei, tP_rdS n.sr en.x z fun u w H3 sr3 s3 r3 z => ?_⟩
  have n3 := n.grow s3
  obtain ⟨a2, vs2, g2, f2, l2⟩ := n3.look e1
  have ea : a2 = a1 := by
    have := l1.ei.symm.trans l2.ei
    cases this
    rfl
  subst ea
  obtain ⟨j, e2, z⟩ := z.get (ixD_nx _ _)
  obtain ⟨k, e3, e4⟩ := ixD_ok e2
  rw [e3] at r3
  cases r3
  refine ⟨_, vs2, k, j, rfl, rfl, l2.ea, by rw [l2.o.length]; exact e4, ?_⟩
  have dis : ∀ x ∈ f, x ∉ g2 := fun x hx z => n3.np x hx ((l2.iff x).mpr (.inr (.inl z)))
  obtain ⟨fo, oo, so⟩ := l2.o.setAt (n := j) n3.ow dis
  obtain ⟨fq, n4⟩ := n3.back l2 (t' := .fz .none) (v' := .non) (f' := []) oo so (.fz .non) (fun _ z => nomatch z) fun _ z => nomatch z
  exact z _ _ ⟨fq, n4.sr⟩
/-- xs[k], by values -/
def gGetL : V → V → Hp → VK → Prop := fun o i H Q => ∃ p xs k j v, o = .ref p ∧ i = .int k ∧ H p = some (.lst xs) ∧ L2.ixN xs.length k = some j ∧ xs[j]? = some v ∧ Q v H
theorem get_listG {X : Cx} : PGet X gGetL := by
  intro pins s σ H o i ov iv Q I ro ri h
  obtain ⟨p, xs, k, j, v, rfl, rfl, hp, hj, hv, q⟩ := h
  cases ro
  obtain ⟨t, rfl⟩ := ri
  obtain ⟨its, r, pl, hz⟩ := I.list (SqL.of hp)
  obtain ⟨h1, h2, h3, h4⟩ := ixN_seq hj
  obtain ⟨w, ew, rw'⟩ := r.get hv
  have hl := r.length
  have hn := line63
  have fin : EP X pins σ Q w s := ⟨v, H, I, rw', q⟩
  by_cases h0 : 0 ≤ k
  · have hk : k.toNat = j := by
      rw [PySem.seqIndex_of h0 h4] at h1
      exact Option.some.inj h1
    exact PySem.wpAny_getItem_list pl.isList h0 (by omega) (by rw [hk]; simpa using ew) fin
  · have hk : (k + (its.toArray.size : Int)).toNat = j := by
      rw [PySem.seqIndex_neg (by omega) h3] at h1
      rw [List.size_toArray, ← hl]
      exact Option.some.inj h1
    exact PySem.wpAny_getItem_list_neg pl.isList (by omega) (by rw [List.size_toArray] <;> omega) (by omega) (by rw [hk]; simpa using ew) fin
theorem st_augx {i : Nat} {q p : P} {o : BinO} {x : Str} {e a : Expr} {px tp pos : Pos} (g : SX Y G cl sc X W) (hr : rd Y sc i x = true) (pl : plainE a = true) (ho : o = .add ∨ o = .sub) (hq : q.chk Y.x sc a = true) (hp : p.chk Y.x sc e = true) :
    PS X (.AugAssign (.Subscript (.Name x px) a tp) o.op e pos) (tS X.K Y G cl W (.augx i q o p)) := by
  have key : ∀ (f : Int → Int → Int), (∀ (a : Int) (d : D) (n : Int), augD o a d = .ok n → ∃ c, d = .int c ∧ n = f a c) → ∀ E σ H, tS X.K Y G cl W (.augx i q o p) E σ H → tAugS (tVar i) (tP X.K G cl W q) (tP X.K G cl W p) gGetL (ipI f) rSetL E σ H := fun f hf E σ H h => at_tR h fun b ρ fp ei en sr z => by
    have z : SOut X.K cl b W E ((slotL ρ i).bindR ρ fun ts => (q.ev G ρ).bindR ρ fun u => (ixD ts.length u.d).bindR ρ fun j => (intT ts[j]?).bindR ρ fun a => (p.ev G ρ).bindR ρ fun t => (augD o a t.d).bindR ρ fun n => .nx (ρ.set i (some (.lst (ts.set j (.fz (.int n))))))) := z
    obtain ⟨ts, e1, z⟩ := z.get (slotL_nx _ _)
    have e1 := slotL_ok e1
    obtain ⟨a0, vs0, g0, f0, l0⟩ := (New.none sr).look e1
    refine ⟨_, l0.ei, tP_rdS sr en.x z fun u w H2 sr2 s2 r2 z => ?_⟩
    obtain ⟨a1, vs1, g1, f1, l1⟩ := (New.none sr2).look e1
    have ea : a1 = a0 := by
      have := l0.ei.symm.trans l1.ei
      cases this
      rfl
    subst ea
    obtain ⟨j, e2, z⟩ := z.get (ixD_nx _ _)
    obtain ⟨k, e3, e4⟩ := ixD_ok e2
    rw [e3] at r2
    cases r2
    obtain ⟨c, e5, z⟩ := z.get (intT_nx _)
    have e5 : ts[j]? = some (.fz (.int c)) := by
      unfold intT at e5
      split at e5
      · rename_i ee
        cases e5
        exact ee
      · cases e5
    obtain ⟨v, f3, f4, e8, ov, oo, ds, iff⟩ := l1.o.out e5
    cases ov with
    | fz rv =>
    cases rv
    refine ⟨_, vs1, k, j, .int c, rfl, rfl, l1.ea, by rw [l1.o.length]; exact e4, e8, ?_⟩
    refine tP_rdS sr2 en.x z fun t y H3 sr3 s3 r3 z => ?_
    obtain ⟨n, e6, z⟩ := z.get (augD_nx _ _ _)
    obtain ⟨d, e7, rfl⟩ := hf _ _ _ e6
    rw [e7] at r3
    cases r3
    refine ⟨c, d, rfl, rfl, ?_⟩
    have n3 := New.none sr3
    obtain ⟨a2, vs2, g2, f2, l2⟩ := n3.look e1
    have ea : a2 = a1 := by
      have := l0.ei.symm.trans l2.ei
      cases this
      rfl
    subst ea
    refine ⟨_, vs2, k, j, rfl, rfl, l2.ea, by rw [l2.o.length]; exact e4, ?_⟩
    obtain ⟨fo, oo, so⟩ := l2.o.setAt (n := j) (t := .fz (.int (f c d))) (v := .int (f c d)) (f := []) (.fz (.int _)) (fun _ w => nomatch w)
    obtain ⟨fq, n4⟩ := n3.back l2 (t' := .fz .none) (v' := .non) (f' := []) oo so (.fz .non) (fun _ z => nomatch z) fun _ z => nomatch z
    exact z _ _ ⟨fq, n4.sr⟩
  rcases ho with rfl | rfl
  · exact PS.mono (ps_augS (rd_of g hr) ((P.sd q).pe g.toGX hq) get_listG ((P.sd p).pe g.toGX hp) ip_add set_list (fun ov iv new => aug_sub pl ov iv new)) (key _ fun a d n h => by cases d <;> cases h <;> exact ⟨_, rfl, rfl⟩)
  · exact PS.mono (ps_augS (rd_of g hr) ((P.sd q).pe g.toGX hq) get_listG ((P.sd p).pe g.toGX hp) ip_sub set_list (fun ov iv new => aug_sub pl ov iv new)) (key _ fun a d n h => by cases d <;> cases h <;> exact ⟨_, rfl, rfl⟩)
theorem st_geti {i j : Nat} {p : P} {x w : Str} {e : Expr} {px pw sp pos : Pos} (g : SX Y G cl sc X W) (hw : wr Y sc j w = true) (hr : rd Y sc i x = true) (pl : plainE e = true) (hp : p.chk Y.x sc e = true) :
    PS X (.Assign [.Name w pw] (.Subscript (.Name x px) e sp) pos) (tS X.K Y G cl W (.geti j i p)) := by
  obtain ⟨h1, h2, h3, h4⟩ := wr_of g hw
  refine PS.mono (ps_set g.nd h1 h2 (pe_ix ix_list (rd_of g hr) ((P.sd p).pe g.toGX hp) (plainIx pl)) rfl (.inl (g.fnt w))) fun E σ H h => at_tR h fun b ρ fp ei en sr q => ?_
  have q : SOut X.K cl b W E ((slotL ρ i).bindR ρ fun ts => (p.ev G ρ).bindR ρ fun u => (ixD ts.length u.d).bindR ρ fun n => (fzT ts[n]?).bindR ρ fun d => .nx (ρ.set j (some (.fz d)))) := q
  obtain ⟨ts, e1, q⟩ := q.get (slotL_nx _ _)
  have e1 := slotL_ok e1
  obtain ⟨a, vs, g1, f1, l⟩ := (New.none sr).look e1
  refine ⟨_, l.ei, tP_rdS sr en.x q fun u y H2 sr2 s2 r2 q => ?_⟩
  have n := New.none sr2
  obtain ⟨a2, vs2, g2, f2, l2⟩ := n.look e1
  have ea : a2 = a := by
    have := l.ei.symm.trans l2.ei
    cases this
    rfl
  subst ea
  obtain ⟨k, e2, q⟩ := q.get (ixD_nx _ _)
  obtain ⟨c, e3, e4⟩ := ixD_ok e2
  obtain ⟨d, e7, q⟩ := q.get (fzT_nx _)
  have e7 := fzT_ok e7
  obtain ⟨v, f3, f4, e8, ov, oo, ds, iff⟩ := l2.o.out e7
  rw [e3] at r2
  cases r2
  cases ov with
  | fz r =>
  refine ⟨_, vs2, c, v, rfl, rfl, SqL.of l2.ea, ?_, q _ _ (sr2.storeD r (by rw [en.n]; exact h3) (h4 ei))⟩
  unfold atI
  rw [l2.o.length, e4]
  exact e8
theorem st_pop0 {i j : Nat} {x w : Str} {px pw ap cp pos : Pos} (g : SX Y G cl sc X W) (hw : wr Y sc j w = true) (hr : rd Y sc i x = true) (hl : (ap.endLine == cp.line) = true) :
    PS X (.Assign [.Name w pw] (.Call (.Attribute (.Name x px) ("pop" : Str) ap) [] [] cp) pos) (tS X.K Y G cl W (.pop0 j i)) := by
  obtain ⟨h1, h2, h3, h4⟩ := wr_of g hw
  refine PS.mono (ps_set g.nd h1 h2 (pe_bm0 PySem.F.plainAttrs_list PySem.F.slot_list_pop PySem.F.type_list_pop mt_pop (rd_of g hr) rfl hl) rfl (.inl (g.fnt w))) fun E σ H h => at_tR h fun b ρ fp ei en sr q => ?_
  have q : SOut X.K cl b W E ((slotL ρ i).bindR ρ fun ts => (R.of ts[ts.length - 1]?).bindR ρ fun t => .nx ((ρ.set i (some (.lst (ts.eraseIdx (ts.length - 1))))).set j (some t))) := q
  obtain ⟨ts, e1, q⟩ := q.get (slotL_nx _ _)
  have e1 := slotL_ok e1
  have n := New.none sr
  obtain ⟨a, vs, g1, f1, l⟩ := n.look e1
  obtain ⟨t, e7, q⟩ := q.get (nx_of _)
  have e7 : ts[ts.length - 1]? = some t := by
    cases z : ts[ts.length - 1]? with
    | none => rw [z] at e7; cases e7
    | some z2 => rw [z] at e7; cases e7; rfl
  obtain ⟨v, f3, f4, e8, ov, oo, ds, iff⟩ := l.o.out e7
  have hl2 := l.o.length
  have ed : vs.dropLast = vs.eraseIdx (ts.length - 1) := by rw [← hl2, List.eraseIdx_length_sub_one]
  refine ⟨_, l.ei, .inl ⟨rfl, _, SqL.of l.ea⟩, _, vs, v, rfl, rfl, l.ea, by rw [hl2]; exact e8, ?_⟩
  rw [ed]
  obtain ⟨fq, n4⟩ := n.back l oo (fun x hx => .inr ((iff x).mpr (.inr hx))) ov (fun x hx => .inr ((iff x).mpr (.inl hx))) ds
  exact q _ _ (n4.store (by rw [en.n]; exact h3) (h4 ei))
theorem st_popi {i j : Nat} {p : P} {x w : Str} {e : Expr} {px pw ap cp pos : Pos} (g : SX Y G cl sc X W) (hw : wr Y sc j w = true) (hr : rd Y sc i x = true) (pl : plainE e = true) (hl : (ap.endLine == cp.line) = true) (hp : p.chk Y.x sc e = true) :
    PS X (.Assign [.Name w pw] (.Call (.Attribute (.Name x px) ("pop" : Str) ap) [e] [] cp) pos) (tS X.K Y G cl W (.popi j i p)) := by
  obtain ⟨h1, h2, h3, h4⟩ := wr_of g hw
  refine PS.mono (ps_set g.nd h1 h2 (pe_bm PySem.F.plainAttrs_list PySem.F.slot_list_pop PySem.F.type_list_pop mt_popAt (rd_of g hr) (pa_cons ((P.sd p).pe g.toGX hp) pa_nil (star_of pl [] _)) rfl (few1 pl) hl (star_of pl [] _) rfl) rfl (.inl (g.fnt w))) fun E σ H h => at_tR h fun b ρ fp ei en sr q => ?_
  have q : SOut X.K cl b W E ((slotL ρ i).bindR ρ fun ts => (p.ev G ρ).bindR ρ fun u => (ixP ts.length u.d).bindR ρ fun n => (R.of ts[n]?).bindR ρ fun t => .nx ((ρ.set i (some (.lst (ts.eraseIdx n)))).set j (some t))) := q
  obtain ⟨ts, e1, q⟩ := q.get (slotL_nx _ _)
  have e1 := slotL_ok e1
  obtain ⟨a, vs, g1, f1, l⟩ := (New.none sr).look e1
  refine ⟨_, l.ei, .inl ⟨rfl, _, SqL.of l.ea⟩, tP_rdS sr en.x q fun u y H2 sr2 s2 r2 q => ?_⟩
  have n := New.none sr2
  obtain ⟨a2, vs2, g2, f2, l2⟩ := n.look e1
  have ea : a2 = a := by
    have := l.ei.symm.trans l2.ei
    cases this
    rfl
  subst ea
  obtain ⟨k, e2, q⟩ := q.get (ixP_nx _ _)
  obtain ⟨c, e3, e4, e5, e6⟩ := ixP_ok e2
  obtain ⟨t, e7, q⟩ := q.get (nx_of _)
  have e7 : ts[k]? = some t := by
    cases z : ts[k]? with
    | none => rw [z] at e7; cases e7
    | some z2 => rw [z] at e7; cases e7; rfl
  obtain ⟨v, f3, f4, e8, ov, oo, ds, iff⟩ := l2.o.out e7
  rw [e3] at r2
  cases r2
  refine ⟨_, vs2, c, k, v, rfl, rfl, l2.ea, by omega, by omega, (ixN_seq (by rw [l2.o.length]; exact e4)).1, e8, ?_⟩
  obtain ⟨fq, n4⟩ := n.back l2 oo (fun x hx => .inr ((iff x).mpr (.inr hx))) ov (fun x hx => .inr ((iff x).mpr (.inl hx))) ds
  exact q _ _ (n4.store (by rw [en.n]; exact h3) (h4 ei))
theorem st_apop {i j : Nat} {p : P} {x w : Str} {e : Expr} {px pw ap ap2 cp cp2 pos : Pos} (g : SX Y G cl sc X W) (hji : j ≠ i) (hw : rd Y sc j w = true) (hr : rd Y sc i x = true) (pl : plainE e = true) (hl : (ap.endLine == cp.line) = true) (hl2 : (ap2.endLine == cp2.line) = true) (hp : p.chk Y.x sc e = true) :
    PS X (.Expr (.Call (.Attribute (.Name w pw) ("append" : Str) ap2) [.Call (.Attribute (.Name x px) ("pop" : Str) ap) [e] [] cp] [] cp2) pos) (tS X.K Y G cl W (.apop j i p)) := by
  have pe1 := pe_bm PySem.F.plainAttrs_list PySem.F.slot_list_pop PySem.F.type_list_pop mt_popAt (rd_of g hr (pos := px)) (pa_cons ((P.sd p).pe g.toGX hp) pa_nil (star_of pl [] _)) (name := ("pop" : Str)) (apos := ap) (cpos := cp) rfl (few1 pl) hl (star_of pl [] _) rfl
  refine PS.mono (ps_expr (pe_bm PySem.F.plainAttrs_list PySem.F.slot_list_append PySem.F.type_list_append mt_append (rd_of g hw) (pa_cons pe1 pa_nil (star_of (e := .Call (.Attribute (.Name x px) ("pop" : Str) ap) [e] [] cp) rfl [] _)) rfl (few1 rfl) hl2 (star_of (e := .Call (.Attribute (.Name x px) ("pop" : Str) ap) [e] [] cp) rfl [] _) rfl)) fun E σ H h => at_tR h fun b ρ fp ei en sr q => ?_
  have q : SOut X.K cl b W E ((slotL ρ j).bindR ρ fun us => (slotL ρ i).bindR ρ fun ts => (p.ev G ρ).bindR ρ fun u => (ixP ts.length u.d).bindR ρ fun n => (R.of ts[n]?).bindR ρ fun t => if us.length < sizeLine then .nx ((ρ.set i (some (.lst (ts.eraseIdx n)))).set j (some (.lst (us ++ [t])))) else .no) := q
  obtain ⟨us, e0, q⟩ := q.get (slotL_nx _ _)
  have e0 := slotL_ok e0
  obtain ⟨a0, vs0, g0, f0, l0⟩ := (New.none sr).look e0
  obtain ⟨ts, e1, q⟩ := q.get (slotL_nx _ _)
  have e1 := slotL_ok e1
  obtain ⟨a, vs, g1, f1, l⟩ := (New.none sr).look e1
  refine ⟨_, l0.ei, .inl ⟨rfl, _, SqL.of l0.ea⟩, ⟨_, l.ei, .inl ⟨rfl, _, SqL.of l.ea⟩, tP_rdS sr en.x q fun u y H2 sr2 s2 r2 q => ?_⟩⟩
  have n := New.none sr2
  obtain ⟨a2, vs2, g2, f2, l2⟩ := n.look e1
  have ea : a2 = a := by
    have := l.ei.symm.trans l2.ei
    cases this
    rfl
  subst ea
  obtain ⟨k, e2, q⟩ := q.get (ixP_nx _ _)
  obtain ⟨c, e3, e4, e5, e6⟩ := ixP_ok e2
  obtain ⟨t, e7, q⟩ := q.get (nx_of _)
  have e7 : ts[k]? = some t := by
    cases z : ts[k]? with
    | none => rw [z] at e7; cases e7
    | some z2 => rw [z] at e7; cases e7; rfl
  obtain ⟨v, f3, f4, e8, ov, oo, ds, iff⟩ := l2.o.out e7
  rw [e3] at r2
  cases r2
  refine ⟨_, vs2, c, k, v, rfl, rfl, l2.ea, by omega, by omega, (ixN_seq (by rw [l2.o.length]; exact e4)).1, e8, ?_⟩
  obtain ⟨fq, n4⟩ := n.back l2 oo (fun x hx => .inr ((iff x).mpr (.inr hx))) ov (fun x hx => .inr ((iff x).mpr (.inl hx))) ds
  by_cases cz : us.length < sizeLine
  · rw [if_pos cz] at q
    have e9 : (ρ.set i (some (.lst (ts.eraseIdx k))))[j]? = some (some (.lst us)) := by rw [List.getElem?_set_ne (fun z => hji z.symm)]; exact e0
    obtain ⟨a5, vs5, g5, f5, l5⟩ := n4.look e9
    have ea : a5 = a0 := by
      have := l0.ei.symm.trans l5.ei
      cases this
      rfl
    subst ea
    refine ⟨_, vs5, v, rfl, rfl, l5.ea, by rw [l5.o.length]; exact cz, ?_⟩
    have dis : ∀ x ∈ g5, x ∉ f3 := fun x hx z => n4.np x z ((l5.iff x).mpr (.inr (.inl hx)))
    obtain ⟨fr, n6⟩ := n4.back l5 (t' := .fz .none) (v' := .non) (f' := []) (l5.o.append (.cons n4.ow .nil fun _ _ z => nomatch z) fun x hx z => dis x hx (by simpa using z)) (fun x hx => by
      rcases List.mem_append.mp hx with z | z
      · exact .inr z
      · exact .inl (by simpa using z)) (.fz .non) (fun _ z => nomatch z) fun _ z => nomatch z
    exact q _ _ ⟨fr, n6.sr⟩
  · rw [if_neg cz] at q
    exact q.elim
theorem st_retd {i : Nat} {s : Str} {x : Str} {c : Expr} {k : Nat} {px tp pos : Pos} (g : SX Y G cl sc X W) (hr : rd Y sc i x = true) (pl : plainE c = true) (hp : (P.cst (.str s)).chk Y.x sc c = true) :
    PS X (.Return (some (.Tuple [c, .Name x px] k tp)) pos) (tS X.K Y G cl W (.retd s i)) := by
  refine PS.mono (ps_ret (pe_tup (pa_cons ((P.sd (.cst (.str s))).pe g.toGX hp) (pa_cons (rd_of g hr) pa_nil (star_of rfl [] _)) (star_of pl _ _)))) fun E σ H h => at_tR h fun b ρ fp ei en sr q => ?_
  have q : SOut X.K cl b W E (((P.cst (.str s)).ev G ρ).bindR ρ fun u => match u.d with
    | .str z => (slotT ρ i).bindR ρ fun t => .rt (mkTup [.fz (.str z), t]) (ρ.set i none)
    | _ => .no) := q
  refine tP_rdS sr en.x q fun u y H2 sr2 s2 r2 q => ?_
  cases hu : u.d with
  | str z =>
    rw [hu] at q r2
    have q : SOut X.K cl b W E ((slotT ρ i).bindR ρ fun t => .rt (mkTup [.fz (.str z), t]) (ρ.set i none)) := q
    obtain ⟨t, e, q⟩ := q.get (slotT_nx _ _)
    cases r2 with
    | str _ hs =>
    obtain ⟨v, f1, f2, e1, o1, o2, ds, iff⟩ := sr2.ow.take (slotT_ok e)
    refine ⟨v, e1, show [V.str z, v].length ≤ sizeLine from by rw [sizeLine_eq]; show 2 ≤ 16777216; omega, fun p hp => ?_⟩
    have hH : Ext H2 (upd H2 p (.tup [V.str z, v])) := sub_upd hp
    have sr3 := sr2.grow hH
    obtain ⟨v', g1, g2, e1', o1', o2', ds', iff'⟩ := sr3.ow.take (slotT_ok e)
    have ev : v' = v := by
      rw [e1] at e1'
      cases e1'
      rfl
    subst ev
    have less : ∀ a, a ∈ g1 ++ (g2 ++ b.frn) → a ∈ fp ++ b.frn := fun a ha => by
      rcases List.mem_append.mp ha with z | z
      · exact List.mem_append_left _ ((iff' a).mpr (.inl z))
      · rcases List.mem_append.mp z with z | z
        · exact List.mem_append_left _ ((iff' a).mpr (.inr z))
        · exact List.mem_append_right _ z
    have np : p ∉ g1 ++ (g2 ++ b.frn) := fun ha => by
      rcases List.mem_append.mp (less p ha) with z | z
      · exact sr2.ow.lists.fresh hp z
      · exact sr2.ho.fresh hp z
    have ow : Own X.K (upd H2 p (.tup [V.str z, v'])) (g1 ++ (g2 ++ b.frn)) (mkTup [.fz (.str z), t]) (.ref p) g1 := by
      have := mk_own (K := X.K) (H := upd H2 p (.tup [V.str z, v'])) (hid := g1 ++ (g2 ++ b.frn)) (ts := [.fz (.str z), t]) (vs := [V.str z, v']) (fp := [] ++ (g1 ++ [])) (a := p) (.cons (.fz (.str _ hs)) (.cons (o1'.keep (keep_less less)) .nil (fun _ _ z => nomatch z)) fun _ z => nomatch z) (by simp [upd]) np
      simpa using this
    exact q _ σ _ g1 g2 ⟨⟨sr3.kp, fun a ha => sr3.nk a ((iff' a).mpr (.inr ha)), fun a ha => sr3.nf a ((iff' a).mpr (.inr ha)), sr3.ho, o2'.keep (keep_less fun a ha => less a (List.mem_append_right _ ha)), sr3.io, sr3.ln, sr3.tb⟩,
      fun a ha => sr3.nk a ((iff' a).mpr (.inl ha)), fun a ha => ds' a ha, fun a ha => sr3.nf a ((iff' a).mpr (.inl ha)), ow, o2'.keep (keep_less less)⟩
  | _ => rw [hu] at q; exact q.elim
theorem st_frz {i : Nat} {s : S} {st : Stmt} (h : PS X st (tS X.K Y G cl W s)) : PS X st (tS X.K Y G cl W (.frz i s)) :=
  PS.mono h fun E σ H q => at_tR q fun b ρ fp ei en sr q => ⟨b, _, ei, en, SR.frz ⟨fp, sr⟩ i, q⟩
theorem st_whl {c : P} {body : List S} {e : Expr} {sts : List Stmt} {pos : Pos} (g : SX Y G cl sc X W) (hp : c.chk Y.x sc e = true) (hb : PSs X sts (tSs X.K Y G cl W body)) : PS X (.While e sts [] pos) (tS X.K Y G cl W (.whl c body)) := by
  refine PS.mono (ps_while g.po ((P.sd c).pt g.toGX hp) hb) fun E σ H h => at_tR h fun b ρ fp ei en sr q => ?_
  have q : SOut X.K cl b W E (whlL (c.tst G) (S.runs G body) fuelN ρ) := q
  refine ⟨fun m σ H => ∃ ρ, SR X.K b ρ σ H ∧ SOut X.K cl b W E (whlL (c.tst G) (S.runs G body) m ρ), ⟨fuelN, ρ, ⟨fp, sr⟩, q⟩, ?_⟩
  rintro m σ H ⟨ρ, ⟨fp, sr⟩, q⟩
  cases m with
  | zero => exact q.elim
  | succ m =>
    have q : SOut X.K cl b W E ((c.tst G ρ).bindR ρ fun z => if z then match S.runs G body ρ with
      | .nx ρ' => whlL (c.tst G) (S.runs G body) m ρ'
      | .ct ρ' => whlL (c.tst G) (S.runs G body) m ρ'
      | .bk ρ' => .nx ρ'
      | r => r
    else .nx ρ) := q
    refine tPt_of sr en.x q fun z H' sr q => ?_
    cases z with
    | false => exact q _ _ ⟨fp, sr⟩
    | true =>
      have q : SOut X.K cl b W E (match S.runs G body ρ with
        | .nx ρ' => whlL (c.tst G) (S.runs G body) m ρ'
        | .ct ρ' => whlL (c.tst G) (S.runs G body) m ρ'
        | .bk ρ' => .nx ρ'
        | r => r) := q
      rw [if_pos rfl]
      refine ⟨_, fun σ' H' w => ⟨m, Nat.lt_succ_self m, w⟩, b, ρ, ei, en, ⟨fp, sr⟩, ?_⟩
      cases e : S.runs G body ρ with
      | nx ρ' =>
        rw [e] at q
        exact fun σ H sr => ⟨ρ', sr, q⟩
      | ct ρ' =>
        rw [e] at q
        exact fun σ H sr => ⟨ρ', sr, q⟩
      | bk ρ' =>
        rw [e] at q
        exact q
      | rt t ρ' => rw [e] at q; exact q
      | ex c fs ρ' => rw [e] at q; exact q
      | no => rw [e] at q; exact q
end
end Gn

set_option Elab.async false
set_option linter.all false
set_option maxRecDepth 100000
set_option maxHeartbeats 4000000
namespace Gn
open PySem PySem.Spec PyProof.Rows L2
variable [Tbls]

section
variable {K : PySem.W.Frag} {H : Hp} {hid : List Addr}
theorem Owns.take : ∀ {ts : List T} {vs : List V} {fp : List Addr} (n : Nat), Owns K H hid ts vs fp → ∃ f1 f2, Owns K H hid (ts.take n) (vs.take n) f1 ∧ Owns K H hid (ts.drop n) (vs.drop n) f2 ∧ (∀ a ∈ f1, a ∉ f2) ∧ ∀ a, a ∈ fp ↔ a ∈ f1 ∨ a ∈ f2
  | _, _, fp, 0, o => ⟨[], fp, by simpa using Owns.nil, by simpa using o, (fun _ z => nomatch z), fun a => by simp⟩
  | _, _, _, n + 1, .nil => ⟨[], [], by simpa using Owns.nil, by simpa using Owns.nil, (fun _ z => nomatch z), fun a => by simp⟩
  | _, _, _, n + 1, .cons (fp := f0) h r d => by
    obtain ⟨f1, f2, o1, o2, ds, iff⟩ := Owns.take n r
    refine ⟨f0 ++ f1, f2, by simpa using Owns.cons h o1 fun a ha z => d a ha ((iff a).mpr (.inl z)), by simpa using o2, fun a ha z => ?_, fun a => ?_⟩
    · rcases List.mem_append.mp ha with q | q
      · exact d a q ((iff a).mpr (.inr z))
      · exact ds a q z
    · rw [List.mem_append, List.mem_append, iff a, or_assoc]
/-- an item put back at its place -/
theorem Owns.putAt : ∀ {ts : List T} {vs : List V} {f2 f1 : List Addr} {n : Nat} {t : T} {v : V}, Owns K H hid (ts.eraseIdx n) (vs.eraseIdx n) f2 → n < ts.length → n < vs.length → Own K H hid t v f1 → (∀ a ∈ f1, a ∉ f2) →
    ∃ fq, Owns K H hid (ts.set n t) (vs.set n v) fq ∧ ∀ a, a ∈ fq ↔ a ∈ f1 ∨ a ∈ f2
  | [], _, _, _, _, _, _, _, l, _, _, _ => by simp at l
  | _ :: _, [], _, _, _, _, _, _, _, l, _, _ => by simp at l
  | t0 :: ts, v0 :: vs, f2, f1, 0, t, v, o, _, _, h, d => ⟨f1 ++ f2, .cons h (by simpa using o) d, fun a => List.mem_append⟩
  | t0 :: ts, v0 :: vs, f2, f1, n + 1, t, v, o, l1, l2, h, d => by
    have o2 : Owns K H hid (t0 :: ts.eraseIdx n) (v0 :: vs.eraseIdx n) f2 := o
    cases o2 with
    | @cons _ _ _ _ g1 g2 h0 r d0 =>
      obtain ⟨fq, k1, k2⟩ := Owns.putAt (n := n) r (by simpa using l1) (by simpa using l2) h fun a ha z => d a ha (List.mem_append_right _ z)
      refine ⟨g1 ++ fq, .cons h0 k1 fun a ha z => ?_, fun a => ?_⟩
      · rcases (k2 a).mp z with q | q
        · exact d a q (List.mem_append_left _ ha)
        · exact d0 a ha q
      · rw [List.mem_append, k2 a, List.mem_append]
        constructor
        · rintro (z | z | z)
          · exact .inr (.inl z)
          · exact .inl z
          · exact .inr (.inr z)
        · rintro (z | z | z)
          · exact .inr (.inl z)
          · exact .inl z
          · exact .inr (.inr z)
end
section
variable {Y : Sy} {G : Gam} {cl : Cl} {sc : Scope} {X : Cx} {W : WX}
theorem st_popx {i : Nat} {p : P} {x : Str} {e : Expr} {px ap cp pos : Pos} (g : SX Y G cl sc X W) (hr : rd Y sc i x = true) (pl : plainE e = true) (hl : (ap.endLine == cp.line) = true) (hp : p.chk Y.x sc e = true) :
    PS X (.Expr (.Call (.Attribute (.Name x px) ("pop" : Str) ap) [e] [] cp) pos) (tS X.K Y G cl W (.popx i p)) := by
  refine PS.mono (ps_expr (pe_bm PySem.F.plainAttrs_list PySem.F.slot_list_pop PySem.F.type_list_pop mt_popAt (rd_of g hr) (pa_cons ((P.sd p).pe g.toGX hp) pa_nil (star_of pl [] _)) rfl (few1 pl) hl (star_of pl [] _) rfl)) fun E σ H h => at_tR h fun b ρ fp ei en sr q => ?_
  have q : SOut X.K cl b W E ((slotL ρ i).bindR ρ fun ts => (p.ev G ρ).bindR ρ fun u => (ixP ts.length u.d).bindR ρ fun n => .nx (ρ.set i (some (.lst (ts.eraseIdx n))))) := q
  obtain ⟨ts, e1, q⟩ := q.get (slotL_nx _ _)
  have e1 := slotL_ok e1
  obtain ⟨a, vs, g1, f1, l⟩ := (New.none sr).look e1
  refine ⟨_, l.ei, .inl ⟨rfl, _, SqL.of l.ea⟩, tP_rdS sr en.x q fun u y H2 sr2 s2 r2 q => ?_⟩
  have n := New.none sr2
  obtain ⟨a2, vs2, g2, f2, l2⟩ := n.look e1
  have ea : a2 = a := by
    have := l.ei.symm.trans l2.ei
    cases this
    rfl
  subst ea
  obtain ⟨k, e2, q⟩ := q.get (ixP_nx _ _)
  obtain ⟨c, e3, e4, e5, e6⟩ := ixP_ok e2
  have kl := (ixN_seq e4).2
  have e7 : ts[k]? = some (ts[k]'(by omega)) := List.getElem?_eq_getElem (by omega)
  generalize ts[k]'(by omega) = t at e7
  obtain ⟨v, f3, f4, e8, ov, oo, ds, iff⟩ := l2.o.out e7
  rw [e3] at r2
  cases r2
  refine ⟨_, vs2, c, k, v, rfl, rfl, l2.ea, by omega, by omega, (ixN_seq (by rw [l2.o.length]; exact e4)).1, e8, ?_⟩
  obtain ⟨fq, n4⟩ := n.back l2 oo (fun x hx => .inr ((iff x).mpr (.inr hx))) (t' := .fz .none) (v' := .non) (f' := []) (.fz .non) (fun _ z => nomatch z) fun _ z => nomatch z
  exact q _ _ ⟨fq, n4.sr⟩
theorem Owns.vints {K : PySem.W.Frag} {H : Hp} {hid : List Addr} : ∀ {ts : List T} {vs : List V} {fp : List Addr} {ns : List Int}, Owns K H hid ts vs fp → T.ds ts = ns.map PyData.int → vs = ns.map V.int
  | _, _, _, [], .nil, _ => rfl
  | _, _, _, _ :: _, .nil, e => by cases e
  | _, _, _, [], .cons _ _ _, e => by cases e
  | _, _, _, n :: ns, .cons (t := t) (v := v) h r _, e => by
    have e : t.d :: T.ds _ = PyData.int n :: ns.map PyData.int := e
    injection e with e1 e2
    rw [Owns.vints r e2]
    cases h with
    | fz r0 =>
      have e1 : _ = PyData.int n := e1
      subst e1
      cases r0
      rfl
    | lst => cases e1
    | tup => cases e1
theorem st_rmv {i : Nat} {p : P} {x : Str} {e : Expr} {px ap cp pos : Pos} (g : SX Y G cl sc X W) (hr : rd Y sc i x = true) (pl : plainE e = true) (hl : (ap.endLine == cp.line) = true) (hp : p.chk Y.x sc e = true) :
    PS X (.Expr (.Call (.Attribute (.Name x px) ("remove" : Str) ap) [e] [] cp) pos) (tS X.K Y G cl W (.rmv i p)) := by
  refine PS.mono (ps_expr (pe_bm PySem.F.plainAttrs_list PySem.F.slot_list_remove PySem.F.type_list_remove mt_remove (rd_of g hr) (pa_cons ((P.sd p).pe g.toGX hp) pa_nil (star_of pl [] _)) rfl (few1 pl) hl (star_of pl [] _) rfl)) fun E σ H h => at_tR h fun b ρ fp ei en sr q => ?_
  have q : SOut X.K cl b W E ((slotL ρ i).bindR ρ fun ts => (p.ev G ρ).bindR ρ fun u => (R.of (rmI (T.ds ts) u.d)).bindR ρ fun n => .nx (ρ.set i (some (.lst (ts.eraseIdx n))))) := q
  obtain ⟨ts, e1, q⟩ := q.get (slotL_nx _ _)
  have e1 := slotL_ok e1
  obtain ⟨a, vs, g1, f1, l⟩ := (New.none sr).look e1
  refine ⟨_, l.ei, .inl ⟨rfl, _, SqL.of l.ea⟩, tP_rdS sr en.x q fun u y H2 sr2 s2 r2 q => ?_⟩
  have n := New.none sr2
  obtain ⟨a2, vs2, g2, f2, l2⟩ := n.look e1
  have ea : a2 = a := by
    have := l.ei.symm.trans l2.ei
    cases this
    rfl
  subst ea
  obtain ⟨k, e2, q⟩ := q.get (nx_of _)
  have e2 : rmI (T.ds ts) u.d = some k := by
    cases z : rmI (T.ds ts) u.d with
    | none => rw [z] at e2; cases e2
    | some j => rw [z] at e2; cases e2; rfl
  obtain ⟨ns, c, e3, e4, e5, e6⟩ := rmI_some e2
  have ev := l2.o.vints e3
  have kl : k < ts.length := by
    have h1 := (List.getElem?_eq_some_iff.mp e5).1
    have h2 := congrArg List.length e3
    rw [List.length_map, T.ds_map, List.length_map] at h2
    omega
  have e7 : ts[k]? = some (ts[k]'kl) := List.getElem?_eq_getElem kl
  generalize ts[k]'kl = t at e7
  obtain ⟨v, f3, f4, e8, ov, oo, ds, iff⟩ := l2.o.out e7
  rw [e4] at r2
  cases r2
  refine ⟨_, ns, c, k, rfl, rfl, by rw [← ev]; exact l2.ea, e5, e6, ?_⟩
  obtain ⟨fq, n4⟩ := n.back l2 oo (fun x hx => .inr ((iff x).mpr (.inr hx))) (t' := .fz .none) (v' := .non) (f' := []) (.fz .non) (fun _ z => nomatch z) fun _ z => nomatch z
  rw [ev, erase_mapI] at n4
  exact q _ _ ⟨fq, n4.sr⟩
theorem few2 {e e2 : Expr} {env : PySem.Env} {cpos : Pos} (h : plainE e = true) (h2 : plainE e2 = true) : ((backTo cpos (starEach (e :: e2 :: []) env)).all (fun x => !x.1) && (backToKw cpos (keywordEach [] env)).all (fun x => x.1.isSome)
      && decide ((e :: e2 :: ([] : List Expr)).length + ([] : List Keyword).length + (if ([] : List Keyword).isEmpty then 0 else 1) < 30)) = true := by
  rw [star_of h, star_of h2]
  rfl
theorem st_ins {i : Nat} {q p : P} {m : Md} {x : Str} {e e2 : Expr} {px ap cp pos : Pos} (g : SX Y G cl sc X W) (hr : rd Y sc i x = true) (pl : plainE e = true) (pl2 : plainE e2 = true) (hl : (ap.endLine == cp.line) = true) (hq : q.chk Y.x sc e = true) (hp : p.chk Y.x sc e2 = true) :
    PS X (.Expr (.Call (.Attribute (.Name x px) ("insert" : Str) ap) [e, e2] [] cp) pos) (tS X.K Y G cl W (.ins i q p m)) := by
  refine PS.mono (ps_expr (pe_bm PySem.F.plainAttrs_list PySem.F.slot_list_insert PySem.F.type_list_insert mt_insert (rd_of g hr) (pa_cons ((P.sd q).pe g.toGX hq) (pa_cons ((P.sd p).pe g.toGX hp) pa_nil (star_of pl2 [] _)) (star_of pl _ _)) rfl (few2 pl pl2) hl (star_of pl _ _) (by rw [star_of pl2]; rfl))) fun E σ H h => at_tR h fun b ρ fp ei en sr z => ?_
  have z : SOut X.K cl b W E ((slotL ρ i).bindR ρ fun ts => (q.ev G ρ).bindR ρ fun u => (insN u.d).bindR ρ fun n => (p.evm G m ρ).bindR ρ fun t => if ts.length < sizeLine then .nx (ρ.set i (some (.lst (ts.take n ++ [t] ++ ts.drop n)))) else .no) := z
  obtain ⟨ts, e1, z⟩ := z.get (slotL_nx _ _)
  have e1 := slotL_ok e1
  obtain ⟨a, vs, g1, f1, l⟩ := (New.none sr).look e1
  refine ⟨_, l.ei, .inl ⟨rfl, _, SqL.of l.ea⟩, tP_rdS sr en.x z fun u y H2 sr2 s2 r2 z => ?_⟩
  obtain ⟨k, e2, z⟩ := z.get (insN_nx _)
  obtain ⟨c, e3, e4, e5, e6⟩ := insN_ok e2
  rw [e3] at r2
  cases r2
  subst e6
  refine tP_of (m := m) sr2 en.x (z.evm sr2 fun t y H3 f fp3 n z => ?_)
  obtain ⟨a2, vs2, g2, f2, l2⟩ := n.look e1
  have ea : a2 = a := by
    have := l.ei.symm.trans l2.ei
    cases this
    rfl
  subst ea
  by_cases cz : ts.length < sizeLine
  · rw [if_pos cz] at z
    refine ⟨_, vs2, c, y, rfl, rfl, l2.ea, by rw [l2.o.length]; exact cz, e4, by omega, ?_⟩
    obtain ⟨fa, fb, oa, ob, dab, iff⟩ := l2.o.take c.toNat
    have dis : ∀ x ∈ f, x ∉ g2 := fun x hx w => n.np x hx ((l2.iff x).mpr (.inr (.inl w)))
    have mid : Owns X.K H3 (f ++ (fp3 ++ b.frn)) (ts.take c.toNat ++ [t]) (vs2.take c.toNat ++ [y]) (fa ++ (f ++ [])) := oa.append (.cons n.ow .nil fun _ _ w => nomatch w) fun x hx w => dis x (by simpa using w) ((iff x).mpr (.inl hx))
    have all := mid.append ob fun x hx w => by
      rcases List.mem_append.mp hx with q | q
      · exact dab x q w
      · exact dis x (by simpa using q) ((iff x).mpr (.inr w))
    obtain ⟨fq, n2⟩ := n.back l2 (t' := .fz .none) (v' := .non) (f' := []) all (fun x hx => by
      rcases List.mem_append.mp hx with w | w
      · rcases List.mem_append.mp w with w | w
        · exact .inr ((iff x).mpr (.inl w))
        · exact .inl (by simpa using w)
      · exact .inr ((iff x).mpr (.inr w))) (.fz .non) (fun _ w => nomatch w) fun _ w => nomatch w
    exact z _ _ ⟨fq, n2.sr⟩
  · rw [if_neg cz] at z
    exact z.elim
end
/-! xs[q].append(p): a list within -/
def MOutS (K : PySem.W.Frag) (cl : Cl) (b : Bs) (W : WX) (ρ : Rho) (σ : St) (H0 : Hp) (r : R T) (Q : VK) : Prop := match r with
  | .ok t => ∀ v H f fp, Ext H0 H → New K b ρ σ H fp t v f → Q v H
  | .ex c fs => ∀ H d, SR K b ρ σ H → ExR K cl H b.frn c fs d → W (.ref (cl.ca c)) (some d) σ H
  | .no => False
section
variable {K : PySem.W.Frag} {cl : Cl} {b : Bs} {ρ : Rho} {σ : St} {H H1 : Hp} {fp : List Addr} {W : WX} {G : Gam} {E : Ends}
theorem tP_ofS {p : P} {m : Md} {Q : VK} (h : SRf K b ρ σ H fp) (x : BX K G cl b) (q : MOutS K cl b W ρ σ H (p.evm G m ρ) Q) : tP K G cl W p σ H Q := by
  cases m with
  | dr =>
    refine ⟨drop ρ, fp ++ b.frn, h.hidok, h.vrd x, ?_⟩
    have q : MOutS K cl b W ρ σ H (p.ev G (drop ρ)) Q := q
    cases e : p.ev G (drop ρ) with
    | ok t =>
      rw [e] at q
      exact fun v H' f s fr o => q v H' f fp s (New.fresh h s fr o)
    | ex c fs =>
      rw [e] at q
      exact fun H' d s x => q H' d ⟨fp, h.grow s⟩ (x.less fun a ha => List.mem_append_right _ ha)
    | no =>
      rw [e] at q
      exact q
  | lf =>
    refine ⟨ρ, b.frn, h.ho, h.vr x, ?_⟩
    have q : MOutS K cl b W ρ σ H (do
      let t ← p.ev G ρ
      if t.lf then .ok t else .no) Q := q
    cases e : p.ev G ρ with
    | ok t =>
      rw [e] at q
      have q : MOutS K cl b W ρ σ H (if t.lf then .ok t else .no) Q := q
      by_cases c : t.lf = true
      · rw [if_pos c] at q
        exact fun v H' f s fr o => q v H' f fp s (New.fresh h s fr (o.lf (o.lists.app (h.hidok.grow s)) c))
      · rw [if_neg c] at q
        exact q.elim
    | ex c fs =>
      rw [e] at q
      exact fun H' d s x => q H' d ⟨fp, h.grow s⟩ x
    | no =>
      rw [e] at q
      exact q
theorem SOut.evmS {r : R T} {f : T → Res} {Q : VK} (h : SOut K cl b W E (r.bindR ρ f)) (hx : SRf K b ρ σ H fp) (k : ∀ t v H' f' fp, Ext H H' → New K b ρ σ H' fp t v f' → SOut K cl b W E (f t) → Q v H') : MOutS K cl b W ρ σ H r Q := by
  cases r with
  | ok t => exact fun v H f fp s n => k t v H f fp s n h
  | ex c fs => exact fun H d sr x => h σ H d sr x
  | no => exact h
/-- a list or a tuple at a value -/
def AtS (bo : Bool) (H : Hp) (a : Addr) (vs : List V) : Prop := H a = some (if bo then .lst vs else .tup vs)
theorem Own.two {hid : List Addr} {bo : Bool} {ts : List T} {v : V} {f1 : List Addr} (o : Own K H hid (mkS2 bo ts) v f1) : ∃ a vs g, v = .ref a ∧ AtS bo H a vs ∧ Owns K H hid ts vs g ∧ (∀ x ∈ g, x ∈ f1) ∧
    (∀ (H' : Hp) (ts' : List T) (g' : List Addr) (hid' : List Addr), (∀ x, x ∉ g → H x = H' x) → (∀ x ∈ f1, x ∉ g → x ∉ g') → Owns K H' hid' ts' vs g' → ∃ f', Own K H' hid' (mkS2 bo ts') v f' ∧ ∀ x, x ∈ f' → x ∈ g' ∨ (x ∈ f1 ∧ x ∉ g)) := by
  cases bo with
  | true =>
    cases o with
    | @lst a vs _ g ea ag o =>
      refine ⟨a, vs, g, rfl, ea, o, fun x hx => List.mem_cons_of_mem _ hx, fun H' ts' g' hid' k1 k2 o' => ⟨a :: g', .lst (by rw [← k1 a ag]; exact ea) (k2 a List.mem_cons_self ag) o', fun x hx => ?_⟩⟩
      rcases List.mem_cons.mp hx with z | z
      · exact .inr ⟨by rw [z]; exact List.mem_cons_self, by rw [z]; exact ag⟩
      · exact .inl z
  | false =>
    cases o with
    | @tup a vs _ _ ea o =>
      refine ⟨a, vs, f1, rfl, ea, o, fun x hx => hx, fun H' ts' g' hid' k1 k2 o' => ⟨g', .tup ?_ o', fun x hx => .inl hx⟩⟩
      rw [← k1 a]
      · exact ea
      · intro z
        obtain ⟨ob, e, m⟩ := o.lists a z
        rw [ea] at e
        cases e
        cases m
theorem AtS.ext {bo : Bool} {a : Addr} {vs : List V} (s : Ext H H1) (h : AtS bo H a vs) : AtS bo H1 a vs := by
  cases bo with
  | true => exact s a _ (show H a = some (.lst vs) from h)
  | false => exact s a _ (show H a = some (.tup vs) from h)
theorem AtS.inj {bo : Bool} {a : Addr} {vs ws : List V} (h : AtS bo H a vs) (k : AtS bo H a ws) : vs = ws := by
  unfold AtS at h k
  rw [h] at k
  cases bo <;> simpa using k
end
section
variable {Y : Sy} {G : Gam} {cl : Cl} {sc : Scope} {X : Cx} {W : WX}
/-- a list within a slot's tree, put anew -/
theorem New.deep {K : PySem.W.Frag} {b : Bs} {ρ : Rho} {σ : St} {H : Hp} {fp f : List Addr} {t : T} {y : V} {i j : Nat} {bo : Bool} {ts us : List T} {a c : Addr} {vs vs2 : List V} (n : New K b ρ σ H fp t y f) (e1 : ρ[i]? = some (some (mkS2 bo ts))) (e5 : ts[j]? = some (.lst us))
    (es : σ[i]? = some (some (.ref a))) (ea : AtS bo H a vs) (ej : vs[j]? = some (.ref c)) (ec : H c = some (.lst vs2)) : ∃ fq, SRf K b (ρ.set i (some (mkS2 bo (ts.set j (.lst (us ++ [t])))))) σ (upd H c (.lst (vs2 ++ [y]))) fq := by
  obtain ⟨v2, h1, h2, es2, p1, q1, d1, if1⟩ := n.os.take e1
  rw [es] at es2
  cases es2
  obtain ⟨a2, ws, k1, eaw, sqw, pw, subw, back⟩ := p1.two
  cases eaw
  have evs := sqw.inj ea
  subst evs
  obtain ⟨w, f3, f4, e6, ov, oo, d3, if3⟩ := pw.out e5
  rw [ej] at e6
  cases e6
  cases ov with
  | @lst _ vs2' _ g3 ec' cg o3 =>
    rw [ec] at ec'
    cases ec'
    have ck1 : c ∈ k1 := (if3 c).mpr (.inl List.mem_cons_self)
    have ch1 : c ∈ h1 := subw c ck1
    have cfp : c ∈ fp := (if1 c).mpr (.inl ch1)
    have chid : c ∈ f ++ (fp ++ b.frn) := List.mem_append_right _ (List.mem_append_left _ cfp)
    have cf : c ∉ f := fun z => n.np c z cfp
    have c4 : c ∉ f4 := d3 c List.mem_cons_self
    have c2 : c ∉ h2 := d1 c ch1
    have kk : ∀ {fx : List Addr}, c ∉ fx → Keep H (upd H c (.lst (vs2 ++ [y]))) (f ++ (fp ++ b.frn)) (f ++ (fp ++ b.frn)) fx := fun {fx} nx => ⟨hide_mono fun x u nh ex => ⟨KeepO.of (by rw [upd_ne (fun z => nh (by rw [z]; exact chid))]; exact ex), nh⟩,
      fun x hx u ex => KeepO.of (by rw [upd_ne (fun z => nx (by rw [← z]; exact hx))]; exact ex), fun x xs ex => by
        rw [upd_ne]
        · exact ex
        · rintro rfl
          rw [ec] at ex
          cases ex⟩
    have g3f : ∀ x ∈ g3, x ∉ f := fun x hx z => n.np x z ((if1 x).mpr (.inl (subw x ((if3 x).mpr (.inl (List.mem_cons_of_mem _ hx))))))
    have inner : Own K (upd H c (.lst (vs2 ++ [y]))) (f ++ (fp ++ b.frn)) (.lst (us ++ [t])) (.ref c) (c :: (g3 ++ (f ++ []))) := .lst upd_same (fun z => by
      rcases List.mem_append.mp z with z | z
      · exact cg z
      · exact cf (by simpa using z)) ((o3.keep (kk cg)).append (.cons (n.ow.keep (kk cf)) .nil fun _ _ z => nomatch z) fun x hx z => g3f x hx (by simpa using z))
    have lj : j < ts.length := (List.getElem?_eq_some_iff.mp e5).1
    have lv : j < ws.length := (List.getElem?_eq_some_iff.mp ej).1
    obtain ⟨fq, o5, if5⟩ := (oo.keep (kk c4)).putAt lj lv inner fun x hx z => by
      rcases List.mem_cons.mp hx with q | q
      · rw [q] at z; exact c4 z
      · rcases List.mem_append.mp q with q | q
        · exact d3 x (List.mem_cons_of_mem _ q) z
        · exact n.np x (by simpa using q) ((if1 x).mpr (.inl (subw x ((if3 x).mpr (.inr z)))))
    have ew : ws.set j (.ref c) = ws := by
      obtain ⟨l, q⟩ := List.getElem?_eq_some_iff.mp ej
      rw [← q]
      simp
    rw [ew] at o5
    have fqin : ∀ x ∈ fq, x ∈ k1 ∨ x ∈ f := fun x hx => by
      rcases (if5 x).mp hx with z | z
      · rcases List.mem_cons.mp z with z | z
        · exact .inl (by rw [z]; exact ck1)
        · rcases List.mem_append.mp z with z | z
          · exact .inl ((if3 x).mpr (.inl (List.mem_cons_of_mem _ z)))
          · exact .inr (by simpa using z)
      · exact .inl ((if3 x).mpr (.inr z))
    obtain ⟨f', o6, if6⟩ := back (upd H c (.lst (vs2 ++ [y]))) _ fq _ (fun x hx => by rw [upd_ne (fun z => hx (by rw [z]; exact ck1))]) (fun x hx nk z => by
      rcases fqin x z with q | q
      · exact nk q
      · exact n.np x q ((if1 x).mpr (.inl hx))) o5
    have f'in : ∀ x ∈ f', x ∈ h1 ∨ x ∈ f := fun x hx => by
      rcases if6 x hx with z | z
      · exact (fqin x z).imp (subw x) id
      · exact .inl z.1
    have li : i < ρ.length := (List.getElem?_eq_some_iff.mp e1).1
    obtain ⟨fr, o7, if7⟩ := OwnS.put (q1.keep (kk c2)) li o6 fun x hx z => by
      rcases f'in x hx with q | q
      · exact d1 x q z
      · exact n.np x q ((if1 x).mpr (.inr z))
    have eσ : σ.set i (some (.ref a)) = σ := by
      obtain ⟨l, q⟩ := List.getElem?_eq_some_iff.mp es
      rw [← q]
      simp
    rw [eσ] at o7
    have frin : ∀ x ∈ fr, x ∈ fp ∨ x ∈ f := fun x hx => by
      rcases (if7 x).mp hx with z | z
      · exact (f'in x z).imp (fun q => (if1 x).mpr (.inl q)) id
      · exact .inl ((if1 x).mpr (.inr z))
    have kc : b.kept c = Option.none := n.sr.nk c cfp
    refine ⟨fr, ⟨fun x o ex => ?_, fun t => Tabs.mut (upd_mut ec) (n.sr.kp.tab t)⟩, fun x hx => (frin x hx).elim (n.sr.nk x) (n.nk x), fun x hx => (frin x hx).elim (n.sr.nf x) (n.nf x), fun x hx => ?_, o7.keep (keep_less fun x hx => ?_), n.sr.io, n.sr.ln, Tabs.mut (upd_mut ec) n.sr.tb⟩
    · refine (n.sr.kp x o ex).eq (upd_ne ?_)
      rintro rfl
      rw [kc] at ex
      cases ex
    · obtain ⟨o, e, m⟩ := n.sr.ho x hx
      refine ⟨o, ?_, m⟩
      rw [upd_ne]
      · exact e
      · rintro rfl
        exact n.sr.nf _ cfp hx
    · rcases List.mem_append.mp hx with z | z
      · rcases frin x z with q | q
        · exact List.mem_append_right _ (List.mem_append_left _ q)
        · exact List.mem_append_left _ q
      · exact List.mem_append_right _ (List.mem_append_right _ z)
theorem st_appx {i : Nat} {q p : P} {m : Md} {x : Str} {a0 e : Expr} {px ip ap cp pos : Pos} (g : SX Y G cl sc X W) (hr : rd Y sc i x = true) (pl0 : plainE a0 = true) (pl : plainE e = true) (hl : (ap.endLine == cp.line) = true) (hq : q.chk Y.x sc a0 = true) (hp : p.chk Y.x sc e = true) :
    PS X (.Expr (.Call (.Attribute (.Subscript (.Name x px) a0 ip) ("append" : Str) ap) [e] [] cp) pos) (tS X.K Y G cl W (.appx i q p m)) := by
  refine PS.mono (ps_expr (pe_bm PySem.F.plainAttrs_list PySem.F.slot_list_append PySem.F.type_list_append mt_append (pe_ix (ix_list.or ix_tup) (rd_of g hr) ((P.sd q).pe g.toGX hq) (plainIx pl0)) (pa_cons ((P.sd p).pe g.toGX hp) pa_nil (star_of pl [] _)) rfl (few1 pl) hl (star_of pl [] _) rfl)) fun E σ H h => at_tR h fun b ρ fp ei en sr z => ?_
  have z : SOut X.K cl b W E ((slotS ρ i).bindR ρ fun tt => (q.ev G ρ).bindR ρ fun u => (ixD tt.2.length u.d).bindR ρ fun j => (subL tt.2 j).bindR ρ fun us => (p.evm G m ρ).bindR ρ fun t => if us.length < sizeLine then .nx (ρ.set i (some (mkS2 tt.1 (tt.2.set j (.lst (us ++ [t])))))) else .no) := z
  obtain ⟨⟨bo, ts⟩, e1, z⟩ := z.get (slotS_nx _ _)
  have e1 := slotS_ok e1
  dsimp only at z
  obtain ⟨v0, _, _, es0, o0, _, _, _⟩ := sr.ow.take e1
  obtain ⟨a, _, _, rfl, _, _, _, _⟩ := o0.two
  refine ⟨_, es0, tP_rdS sr en.x z fun u y H2 sr2 s2 r2 z => ?_⟩
  obtain ⟨j, e2, z⟩ := z.get (ixD_nx _ _)
  obtain ⟨k, e3, e4⟩ := ixD_ok e2
  obtain ⟨us, e5, z⟩ := z.get (subL_nx _ _)
  have e5 := subL_ok e5
  rw [e3] at r2
  cases r2
  obtain ⟨v1, f1, f2, es1, o1, os1, ds1, iff1⟩ := sr2.ow.take e1
  rw [es0] at es1
  cases es1
  obtain ⟨a', vs, g1, ea', sq, ow, sub1, _⟩ := o1.two
  cases ea'
  obtain ⟨w, f3, f4, e6, ov, _, _, _⟩ := ow.out e5
  cases ov with
  | @lst c vs2 _ g3 ec cg o3 =>
    have at_ : atI vs k = some (.ref c) := by
      unfold atI
      rw [ow.length, e4]
      exact e6
    have pick : ∀ Q' : VK, Q' (.ref c) H2 → (rIxL X.K (.ref a) (.int k) H2 Q' ∨ rIxT X.K (.ref a) (.int k) H2 Q') := fun Q' hq => by
      cases bo with
      | true => exact .inl ⟨_, vs, k, _, rfl, rfl, SqL.of sq, at_, hq⟩
      | false => exact .inr ⟨_, vs, k, _, rfl, rfl, SqT.of sq, at_, hq⟩
    refine pick _ ⟨.inl ⟨rfl, _, SqL.of ec⟩, tP_ofS (m := m) sr2 en.x (z.evmS sr2 fun t y H3 f fp3 s3 n z => ?_)⟩
    by_cases cz : us.length < sizeLine
    · rw [if_pos cz] at z
      have ea3 : AtS _ H3 a vs := AtS.ext s3 sq
      obtain ⟨fq, n2⟩ := n.deep e1 e5 es0 ea3 e6 (s3 _ _ ec)
      exact ⟨_, vs2, y, rfl, rfl, s3 _ _ ec, by rw [o3.length]; exact cz, z _ _ ⟨fq, n2⟩⟩
    · rw [if_neg cz] at z
      exact z.elim
end
end Gn

set_option Elab.async false
set_option linter.all false
set_option maxRecDepth 100000
set_option maxHeartbeats 4000000
namespace Gn
open PySem PySem.Spec PyProof.Rows L2
variable [Tbls]

/-! ### targets -/
def gNs : List Nat → TGs
  | [] => gNil
  | i :: is => gCons (gName i) (gNs is)
def gTg (K : PySem.W.Frag) : Tg → TG
  | .one i => gName i
  | .tup is => gTup K is.length (gNs is)
def namesB (Y : Sy) (sc : Scope) : List Nat → List Expr → Bool
  | [], [] => true
  | i :: is, .Name x _ :: es => wr Y sc i x && namesB Y sc is es
  | _, _ => false
def tgB (Y : Sy) (sc : Scope) : Tg → Expr → Bool
  | .one i, .Name x _ => wr Y sc i x
  | .tup is, .Tuple es _ _ => namesB Y sc is es
  | _, _ => false
def Tg.slots : Tg → List Nat
  | .one i => [i]
  | .tup is => is
section
variable {Y : Sy} {G : Gam} {cl : Cl} {sc : Scope} {X : Cx} {W : WX}
theorem names_of (g : SX Y G cl sc X W) : ∀ {is : List Nat} {es : List Expr}, namesB Y sc is es = true → PGs X es (gNs is) ∧ (assignEach es X.env).length = is.length ∧ (assignEach es X.env).findIdx? (·.1) = none ∧
    ∀ i ∈ is, i < Y.x.N.length ∧ ∀ (b : Bs), b.io.map Prod.fst = Y.io → ∀ p ∈ b.io, p.1 ≠ i
  | [], [], _ => ⟨pgs_nil, rfl, rfl, fun _ h => nomatch h⟩
  | [], _ :: _, h => cfalse h
  | _ :: _, [], h => cfalse h
  | i :: is, e :: es, h => by
    cases e with
    | Name x px =>
      obtain ⟨h1, h2⟩ := b2 (show (wr Y sc i x && namesB Y sc is es) = true from h)
      obtain ⟨k1, k2, k3, k4⟩ := names_of g h2
      obtain ⟨w1, w2, w3, w4⟩ := wr_of g h1
      refine ⟨pgs_cons (pg_name g.nd w1 w2 (.inl (g.fnt x))) k1 rfl, ?_, ?_, fun j hj => ?_⟩
      · show (assignEach es X.env).length + 1 = _
        rw [k2]
        rfl
      · show List.findIdx? (·.1) ((false, assign (.Name x px) X.env) :: assignEach es X.env) = none
        rw [List.findIdx?_cons, k3]
        rfl
      · rcases List.mem_cons.mp hj with z | z
        · rw [z]; exact ⟨w3, fun b => w4⟩
        · exact k4 j z
    | _ => exact cfalse h
theorem tg_of (g : SX Y G cl sc X W) (hh : Y.x.hot = false) {tg : Tg} {e : Expr} (h : tgB Y sc tg e = true) : PG X e (gTg X.K tg) ∧ ∀ i ∈ tg.slots, i < Y.x.N.length ∧ ∀ (b : Bs), b.io.map Prod.fst = Y.io → ∀ p ∈ b.io, p.1 ≠ i := by
  cases tg with
  | one i =>
    cases e with
    | Name x px =>
      obtain ⟨w1, w2, w3, w4⟩ := wr_of g (show wr Y sc i x = true from h)
      exact ⟨pg_name g.nd w1 w2 (.inl (g.fnt x)), fun j hj => by
        have : j = i := by simpa [Tg.slots] using hj
        rw [this]
        exact ⟨w3, fun b => w4⟩⟩
    | _ => exact cfalse h
  | tup is =>
    cases e with
    | Tuple es k p =>
      obtain ⟨k1, k2, k3, k4⟩ := names_of g (show namesB Y sc is es = true from h)
      exact ⟨pg_tup (g.calm hh) k1 k2 k3, k4⟩
    | _ => exact cfalse h
theorem sets_ok {K : PySem.W.Frag} {b : Bs} {B : Hp} {H : Hp} {Q : St → Hp → Prop} (hB : ∀ a o, B a = some o → b.kept a = some o ∧ a ∉ b.frn) : ∀ {is : List Nat} {ds : List D} {vs : List V} {ρ ρ' : Rho} {σ : St}, SR K b ρ σ H → Reps K B ds vs → setIs is ds ρ = .ok ρ' →
    (∀ i ∈ is, i < b.n ∧ ∀ p ∈ b.io, p.1 ≠ i) → (∀ σ', SR K b ρ' σ' H → Q σ' H) → gNs is vs σ H Q
  | [], [], _, _, _, _, sr, .nil, e, _, q => ⟨rfl, q _ (by cases e; exact sr)⟩
  | [], _ :: _, _, _, _, _, _, _, e, _, _ => by cases e
  | _ :: _, [], _, _, _, _, _, _, e, _, _ => by cases e
  | i :: is, d :: ds, _, _, _, _, ⟨fp, sr⟩, .cons r rr, e, w, q => ⟨_, _, rfl, sets_ok hB (sr.storeB r hB (w i (by simp)).1 (w i (by simp)).2) rr e (fun j hj => w j (by simp [hj])) q⟩
theorem tg_ok {K : PySem.W.Frag} {b : Bs} {B : Hp} {H : Hp} {Q : St → Hp → Prop} {tg : Tg} {d : D} {v : V} {ρ ρ' : Rho} {σ : St} (hB : ∀ a o, B a = some o → b.kept a = some o ∧ a ∉ b.frn) (sr : SR K b ρ σ H) (r : Rep K B d v) (e : tg.set d ρ = .ok ρ')
    (w : ∀ i ∈ tg.slots, i < b.n ∧ ∀ p ∈ b.io, p.1 ≠ i) (q : ∀ σ', SR K b ρ' σ' H → Q σ' H) : gTg K tg v σ H Q := by
  obtain ⟨fp, sr⟩ := sr
  cases tg with
  | one i =>
    cases e
    exact q _ (sr.storeB r hB (w i (by simp [Tg.slots])).1 (w i (by simp [Tg.slots])).2)
  | tup is =>
    cases r with
    | @tup a vs ds hs rr =>
      have el : ∀ {is : List Nat} {ds : List D} {ρ : Rho}, setIs is ds ρ = .ok ρ' → ds.length = is.length := by
        intro is
        induction is with
        | nil => intro ds ρ e; cases ds with
          | nil => rfl
          | cons _ _ => cases e
        | cons i is ih => intro ds ρ e; cases ds with
          | nil => cases e
          | cons d ds =>
            have := ih (show setIs is ds _ = .ok ρ' from e)
            simp [this]
      have e : setIs is ds ρ = .ok ρ' := e
      refine ⟨a, vs, rfl, sqT_sub (fun a o z => sr.kp a o (hB a o z).1) hs, by rw [rr.length]; exact el e, sets_ok hB ⟨fp, sr⟩ rr e w q⟩
    | _ => cases e
theorem setIs_nx : ∀ (is : List Nat) (ds : List D) (ρ : Rho), NoEx (setIs is ds ρ)
  | [], [], _ => nx_ok _
  | [], _ :: _, _ => nx_no
  | _ :: _, [], _ => nx_no
  | _ :: is, _ :: ds, _ => setIs_nx is ds _
theorem tg_nx (tg : Tg) (d : D) (ρ : Rho) : NoEx (tg.set d ρ) := by
  cases tg with
  | one i => exact nx_ok _
  | tup is => cases d <;> first | exact setIs_nx _ _ _ | exact nx_no
/-- what is visible without the slots' lists, from the inner base -/
theorem inner_vis {H : Hp} {b : Bs} {fp : List Addr} : ∀ a o, hide H (fp ++ b.frn) a = some o → ({ b with kept := hide H fp } : Bs).kept a = some o ∧ a ∉ ({ b with kept := hide H fp } : Bs).frn := fun a o e => by
  obtain ⟨n, e⟩ := hide_some e
  exact ⟨by show hide H fp a = some o; rw [hide_out fun z => n (List.mem_append_left _ z)]; exact e, fun z => n (List.mem_append_right _ z)⟩
def isTup : Expr → Bool
  | .Tuple _ _ _ => true
  | _ => false
def tasR (is : List Nat) (ρ : Rho) : D → Res
  | .tuple ds => (setIs is ds ρ).bindR ρ .nx
  | _ => .no
theorem st_tas {is : List Nat} {p : P} {m : Md} {es : List Expr} {k : Nat} {e : Expr} {tp pos : Pos} (g : SX Y G cl sc X W) (hh : Y.x.hot = false) (ht : tgB Y sc (.tup is) (.Tuple es k tp) = true) (nt : isTup e = false) (hp : p.chk Y.x sc e = true) :
    PS X (.Assign [.Tuple es k tp] e pos) (tS X.K Y G cl W (.tas is p m)) := by
  obtain ⟨pg, w⟩ := tg_of g hh ht
  refine PS.mono (ps_asg ((P.sd p).pe g.toGX hp) pg (by cases e <;> rfl) (by cases e <;> first | rfl | cases nt) rfl) fun E σ H h => at_tR h fun b ρ fp ei en sr q => ?_
  have q : SOut X.K cl b W E ((p.evm G m ρ).bindR ρ fun t => match t.d with
    | .tuple ds => (setIs is ds ρ).bindR ρ .nx
    | _ => .no) := q
  refine tP_of (m := m) sr en.x (q.evm sr fun t v H f fp n q => ?_)
  have r := n.frz.ow
  have up := n.sr.inner
  cases et : t.d with
  | tuple ds =>
    rw [et] at q r
    cases r with
    | fz r =>
      have q : SOut X.K cl b W E ((setIs is ds ρ).bindR ρ .nx) := q
      obtain ⟨ρ', e2, q⟩ := q.get (setIs_nx _ _ _)
      exact tg_ok (tg := .tup is) (d := .tuple ds) (b := { b with kept := hide H fp }) inner_vis ⟨fp, up.2⟩ (by simpa using r) e2 (fun i hi => ⟨by show i < b.n; rw [en.n]; exact (w i hi).1, (w i hi).2 b ei⟩) fun σ' sr' => q _ _ (sr'.up up.1)
  | _ => rw [et] at q; exact q.elim

/-! ### for -/
theorem iter_of {S : Sx} {k : IK} {its : List P} {a tg : Expr} (g : GX S G cl sc X W) (h : (match iterArgs S sc k a with
    | some es => P.chks S its sc es
    | none => false) = true) : (∀ x, foldedSetIterable a X.env x = pure x) ∧ PI X tg a (iG X.K G cl W k its) := by
  cases ei : iterArgs S sc k a with
  | none => rw [ei] at h; exact cfalse h
  | some es =>
    rw [ei] at h
    cases k with
    | seq =>
      obtain ⟨c, rfl⟩ := iter_seq ei
      match its, h with
      | [], h => exact cfalse h
      | _ :: _ :: _, h => exact cfalse (by
          obtain ⟨_, h8⟩ := b2 h
          exact (b2 h8).2)
      | [p], h =>
        obtain ⟨h8, h9⟩ := b2 (show (plainE a && (p.chk S sc a && true)) = true from h)
        exact ⟨plainFold c _, pi_gen ((P.sd p).pe g (b2 h9).1)⟩
    | rng1 =>
      have hps := P.sounds its g h
      obtain ⟨p1, a1, p2, rfl, c1, c2, rfl⟩ := iter_rng1 ei
      exact ⟨fun _ => rfl, snd_rng1 g c1 c2 (chks_plain h _ (by simp)) hps⟩
    | rng2 =>
      have hps := P.sounds its g h
      obtain ⟨p1, a1, b1, p2, rfl, c1, c2, rfl⟩ := iter_rng2 ei
      exact ⟨fun _ => rfl, snd_rng2 g c1 c2 (chks_plain h _ (by simp)) (chks_plain h _ (by simp)) hps⟩
theorem st_for {tg : Tg} {k : IK} {its : List P} {body : List S} {t a : Expr} {sts : List Stmt} {pos : Pos} (g : SX Y G cl sc X W) (hh : Y.x.hot = false) (ht : tgB Y sc tg t = true) (hi : (match iterArgs Y.x sc k a with
    | some es => P.chks Y.x its sc es
    | none => false) = true) (hb : PSs X sts (tSs X.K Y G cl W body)) : PS X (.For t a sts [] pos) (tS X.K Y G cl W (.for1 tg k its body)) := by
  obtain ⟨pg, w⟩ := tg_of g hh ht
  obtain ⟨hf, pi⟩ := iter_of (tg := t) g.toGX hi
  refine PS.mono (ps_for g.po (g.calm hh) pi pg hb hf) fun E σ H h => at_tR h fun b ρ fp ei en sr q => ?_
  have q : SOut X.K cl b W E ((itemsM G k its ρ).bindR ρ fun ds => forL (fun d ρ => (tg.set d ρ).bindR ρ fun ρ' => S.runs G body ρ') ds ρ) := q
  generalize hff : (fun d ρ => (tg.set d ρ).bindR ρ fun ρ' => S.runs G body ρ') = ff at q
  have key : ∀ ρ0 hid, HidOk H hid → VR G cl X.K H hid ρ0 σ → (∀ a ∈ b.frn, a ∈ hid) → itemsM G k its ρ = (do itemsK k (← P.evs G its ρ0)) → (∀ J H' ds, itA X.K k (hide H' hid) J ds → ItD X.K (hide H' (fp ++ b.frn)) J ds) →
      tFor (iG X.K G cl W k its) (gTg X.K tg) (tSs X.K Y G cl W body) E σ H := fun ρ0 hid ho vr sub em it => by
    refine ⟨ρ0, hid, ho, vr, ?_⟩
    rw [em] at q
    cases er : (do itemsK k (← P.evs G its ρ0) : R (List D)) with
    | no => rw [er] at q; exact q.elim
    | ex c fs =>
      rw [er] at q
      exact fun H' d s x => q σ H' d ⟨fp, sr.grow s⟩ (x.less sub)
    | ok ds =>
      rw [er] at q
      have q : SOut X.K cl b W E (forL ff ds ρ) := q
      intro J H1 s1 hJ
      have hJ := it J H1 ds hJ
      obtain ⟨up, inn⟩ := (sr.grow s1).inner
      have kpB : ∀ {H : Hp} {ρ : Rho} {σ : St}, SR X.K { b with kept := hide H1 fp } ρ σ H → Sub (hide H1 (fp ++ b.frn)) H := fun {H ρ σ} ⟨fp, sr⟩ a o e => sr.kp a o (inner_vis a o e).1
      refine ⟨fun i m σ H => m = ds.length - i ∧ i ≤ ds.length ∧ ∃ ρ, SR X.K { b with kept := hide H1 fp } ρ σ H ∧ SOut X.K cl b W E (forL ff (ds.drop i) ρ), ⟨ds.length, by simp, Nat.zero_le _, ρ, ⟨fp, inn⟩, by simpa using q⟩, ?_⟩
      rintro i m σ H ⟨rfl, hi, ρ, sr, q⟩
      by_cases hlt : i < ds.length
      · obtain ⟨go, yl⟩ := hJ.go i H ds[i] (kpB sr) (by simp [hlt])
        refine .inr ⟨go, fun σ' H' => ∃ ρ, SR X.K { b with kept := hide H1 fp } ρ σ' H' ∧ SOut X.K cl b W E (forL ff (ds.drop (i + 1)) ρ), fun σ' H' z => ⟨ds.length - (i + 1), by omega, rfl, hlt, z⟩, fun x H' y => ?_⟩
        obtain ⟨e1, r1⟩ := yl x H' y
        subst e1
        rw [List.drop_eq_getElem_cons hlt] at q
        have q : SOut X.K cl b W E (match ff ds[i] ρ with
          | .nx ρ' => forL ff (ds.drop (i + 1)) ρ'
          | .ct ρ' => forL ff (ds.drop (i + 1)) ρ'
          | .bk ρ' => .nx ρ'
          | r => r) := q
        have ed : ff ds[i] ρ = (tg.set ds[i] ρ).bindR ρ fun ρ' => S.runs G body ρ' := by rw [← hff]
        cases es : tg.set ds[i] ρ with
        | no => rw [ed, es] at q; exact q.elim
        | ex c fs => exact absurd es (tg_nx _ _ _ c fs)
        | ok ρ' =>
          rw [ed, es] at q
          refine tg_ok (b := { b with kept := hide H1 fp }) inner_vis sr r1 es (fun i hi => ⟨by show i < b.n; rw [en.n]; exact (w i hi).1, (w i hi).2 b ei⟩) fun σ' sr' => ⟨{ b with kept := hide H1 fp }, ρ', ei, en.up up, sr', ?_⟩
          simp only [R.bindR_ok] at q
          cases eb : S.runs G body ρ' with
          | nx ρ2 =>
            rw [eb] at q
            exact fun σ H sr => ⟨ρ2, sr, q⟩
          | ct ρ2 =>
            rw [eb] at q
            exact fun σ H sr => ⟨ρ2, sr, q⟩
          | bk ρ2 =>
            rw [eb] at q
            exact fun σ H sr => q σ H (sr.up up)
          | rt t ρ2 =>
            rw [eb] at q
            exact fun v σ H f fp n => q v σ H f fp (n.up up)
          | ex c fs ρ2 =>
            rw [eb] at q
            exact fun σ H d sr x => q σ H d (sr.up up) x
          | no => rw [eb] at q; exact q
      · have e : i = ds.length := by omega
        subst e
        rw [List.drop_length] at q
        exact .inl ⟨hJ.stop _ H (kpB sr) (Nat.le_refl _), q _ _ (sr.up up)⟩
  cases k with
  | seq => exact key (drop ρ) (fp ++ b.frn) sr.hidok (sr.vrd en.x) (fun a ha => List.mem_append_right _ ha) rfl fun J H' ds h => h
  | rng1 => exact key ρ b.frn sr.ho (sr.vr en.x) (fun a ha => ha) rfl fun J H' ds h => h _
  | rng2 => exact key ρ b.frn sr.ho (sr.vr en.x) (fun a ha => ha) rfl fun J H' ds h => h _

/-! ### raise -/
theorem evs_lenZ {G : Gam} {ρ : Rho} : ∀ {ps : List P} {ts : List T}, P.evs G ps ρ = .ok ts → ts.length = ps.length
  | [], ts, h => by cases h; rfl
  | p :: ps, ts, h => by
    have h : (do
      let t ← p.ev G ρ
      let ts ← P.evs G ps ρ
      return t :: ts : R (List T)) = .ok ts := h
    cases e1 : p.ev G ρ with
    | no => rw [e1] at h; cases h
    | ex _ _ => rw [e1] at h; cases h
    | ok t =>
      cases e2 : P.evs G ps ρ with
      | no => rw [e1, e2] at h; cases h
      | ex _ _ => rw [e1, e2] at h; cases h
      | ok us =>
        rw [e1, e2] at h
        cases h
        simp [evs_lenZ e2]
theorem st_rais {c n : Nat} {ps : List P} {x : Str} {es : List Expr} {p cp pos : Pos} (g : SX Y G cl sc X W) (hh : Y.x.hot = false) (hx : Y.en[c]? = some (x, n)) (hn : ps.length = n) (hne : es ≠ []) (hg : glB sc x = true) (ho : okName x = true) (hp : P.chks Y.x ps sc es = true) :
    PS X (.Raise (some (.Call (.Name x p) es [] cp)) none pos) (tS X.K Y G cl W (.rais c ps)) := by
  obtain ⟨ln, mk⟩ := g.exn hh X.pn X.xe W g.tk c x n hx
  cases es with
  | nil => exact absurd rfl hne
  | cons e es =>
    refine PS.mono (ps_raise (g.calm hh) g.tk (mk e es _ p cp (gl_of g.sc hg) (okN ho).1 (fun σ H Q Q' k ⟨ρ, hid, ho, vr, h⟩ => ⟨ρ, hid, ho, vr, POut.imp ms h k⟩) (star_of (chks_plain hp e (by simp)) es _) (star_none fun e he => chks_plain hp e (by simp [he])) (P.sounds ps g.toGX hp))) fun E σ H h => at_tR h fun b ρ fp ei en sr q => ?_
    have q : SOut X.K cl b W E ((P.evs G ps ρ).bindR ρ fun ts => .ex c (T.ds ts) ρ) := q
    refine ⟨ρ, b.frn, sr.ho, sr.vr en.x, ?_⟩
    cases ev : P.evs G ps ρ with
    | no => rw [ev] at q; exact q.elim
    | ex c fs =>
      rw [ev] at q
      exact fun H' d s x => q σ H' d ⟨fp, sr.grow s⟩ x
    | ok ts =>
      rw [ev] at q
      intro vs H1 f s fr o
      refine ⟨by rw [o.length, evs_lenZ ev, hn, ln], fun H' d s2 ed => q σ H' d ⟨fp, sr.grow (s.trans s2)⟩ ⟨vs, ed, (o.seen sr.ho s fr).sub (hide_grow (sr.ho.grow s) s2)⟩⟩
end
end Gn

set_option Elab.async false
set_option linter.all false
set_option maxRecDepth 100000
set_option maxHeartbeats 4000000
namespace Gn
open PySem PySem.Spec PyProof.Rows L2
variable [Tbls]

/-! ### several except clauses, each with a name or without -/
abbrev HTS := Addr → Value → Option Addr → TS
def hSt : Option Nat → Addr → St → St
  | none, _, σ => σ
  | some i, a, σ => σ.set i (some (.ref a))
def hUn : Option Nat → St → St
  | none, σ => σ
  | some i, σ => σ.set i none
def hEnds (o : Option Nat) (D : Ends) : Ends := { nx := fun σ H => D.nx (hUn o σ) H, rt := D.rt, bk := fun σ H => D.bk (hUn o σ) H, ct := fun σ H => D.ct (hUn o σ) H }
def wHds (K : PySem.W.Frag) (Wo : WX) (D : Ends) : List (Value × Option Nat × HTS) → WX
  | [] => Wo
  | (c, o, ts) :: r => fun cls d σ H => ∃ b, PySem.W.exmOne K cls c = some b ∧ (b = true → ∀ a, H a = none → ts a cls d (hEnds o D) (hSt o a σ) H) ∧ (b = false → wHds K Wo D r cls d σ H)
inductive HdsA (X : Cx) : List ExceptHandler → List (Value × Option Nat × HTS) → Prop
  | nil : HdsA X [] []
  | bare {x : Str} {c : Value} {ts : HTS} {b₀ : Stmt} {su : List Stmt} {np ps : Pos} {hds : List ExceptHandler} {l : List (Value × Option Nat × HTS)} (hc : Names X x c)
      (hsu : ∀ (a : Addr) (oe : Obj) (cls : Value) (d : Option Addr) (pn : List (Addr × Obj)), Zc cls d oe → (∃ vs, oe.data = .fields vs) → PSs (X.suite a ((a, oe) :: pn)) (b₀ :: su) (ts a cls d)) (r : HdsA X hds l) :
      HdsA X (.ExceptHandler (some (.Name x np)) none (b₀ :: su) ps :: hds) ((c, none, ts) :: l)
  | named {x n : Str} {i : Nat} {c : Value} {ts : HTS} {b₀ : Stmt} {su : List Stmt} {np ps : Pos} {hds : List ExceptHandler} {l : List (Value × Option Nat × HTS)} (hc : Names X x c) (hi : X.N[i]? = some n) (hl : X.env.kindOf n = some .local)
      (hsu : ∀ (a : Addr) (oe : Obj) (cls : Value) (d : Option Addr) (pn : List (Addr × Obj)), Zc cls d oe → (∃ vs, oe.data = .fields vs) → PSs (X.suite a ((a, oe) :: pn)) (b₀ :: su) (ts a cls d)) (r : HdsA X hds l) :
      HdsA X (.ExceptHandler (some (.Name x np)) (some n) (b₀ :: su) ps :: hds) ((c, some i, ts) :: l)
section
variable {X : Cx} {body : List Stmt} {h₀ : ExceptHandler} {hds : List ExceptHandler} {l : List (Value × Option Nat × HTS)} {pos : Pos} {tb : WX → TS} {Wo : WX}
theorem ps_tryA (hs : X.stack = X.env :: X.outer) (hf : X.env.frame = some X.env.locals) (hN : X.N.Nodup) (tk : Takes X Wo)
    (hb : ∀ (W : WX) (pn : List (Addr × Obj)) (xe : Value → Shared → Prop), Takes (X.tr pn xe) W → PassesOwn (model X.prog X.w) X.A X.env xe → PSs (X.tr pn xe) body (tb W))
    (hh : HdsA X (h₀ :: hds) l) : PS X (.Try body (h₀ :: hds) [] [] pos) (fun D σ H => tb (wHds X.K Wo D l) D σ H) := by
  refine ⟨fun pins s σ H D I0 hq => ?_⟩
  have okX := I0.ok
  have frA : X.A.frames = some (X.env :: X.outer) := by rw [okX.frames, hs]
  refine wpAny_Try_except ?_
  refine wpAny_mono ((hb (wHds X.K Wo D l) (X.pn ++ pins) (fun ev s₁ => wpAny (model X.prog X.w) X.A (noteFrame ev X.env) (fun _ s₂ => wpAny (model X.prog X.w) X.A (setFlight ev none)
    (fun _ s₃ => wpAny (model X.prog X.w) X.A (handleBy ev X.env (h₀ :: hds)) (SP X pins D) X.xe s₃) X.xe s₂) X.xe s₁) (fun u s' xx => ?_) PassesOwn.looking).run [] s σ H D (I0.toTry _) hq) (fun fl s1 hsp => ?_) (fun _ _ z => z)
  · obtain ⟨a, B, sI, pinsA, σA, HA, cls, d, rfl, JA, nb, up, sky, na, osA, ag, w⟩ := xx
    have J : Inv X pins σA HA sI := JA.ofTry okX
    have skyA : Sky B (X.env :: X.outer) a (Zc cls d) X.env.locals s'.heap := by rw [← hs]; exact sky
    show wpAny (model X.prog X.w) X.A (noteFrame (.ref a) X.env) _ _ _
    refine Sky.land Zc.steady frA hf skyA fun g3 fl3 up3 => ?_
    have J3 : Inv X pins σA HA { s' with heap := g3 } := J.landed nb fl3.1 (up.trans up3) osA ag
    obtain ⟨oe3, vs3, he3, hz3, hd3⟩ := fl3.there
    have apart : ∀ {h : Heap} {o : Obj} {vs : Array Value}, h.FunFrames B (X.env :: X.outer) → h.get? a = some o → o.data = .fields vs → a ∉ frs (X.env :: X.outer) := fun {h o vs} ff e1 e2 hm => by
      obtain ⟨_, o2, e3, nf⟩ := ff.mem hm
      rw [e1] at e3
      cases e3
      exact nf _ e2
    have nfr := apart fl3.2.2.1 he3 hd3
    have nL : a ≠ X.env.locals := fun z => nfr (List.mem_filterMap.mpr ⟨X.env, List.mem_cons_self, by rw [hf, z]⟩)
    have nF : a ∉ X.fs := fun hm => by
      obtain ⟨e1, m1, q1⟩ := List.mem_filterMap.mp hm
      exact nfr (List.mem_filterMap.mpr ⟨e1, List.mem_cons_of_mem _ m1, q1⟩)
    have S3 := J3.suite he3 hd3 na nL nF
    have LT : PySem.W.Looks (model X.prog X.w) g3 (typeOf (.ref a)) cls := fun A Q E s k q => wpAny_typeOf_ref (k _ _ he3) (by rw [hz3.1]; exact q)
    have test : ∀ {x : Str} {c : Value} {np : Pos} {Q E : Value → Shared → Prop}, Names X x c → Q c { s' with heap := g3 } → wpAny (model X.prog X.w) (X.A.mark (some (.ref a))) (eval (.Name x np) X.env) Q E { s' with heap := g3 } := fun {x c np Q E} hc q => by
      obtain ⟨hg, hdbg, hm | ⟨hm, hv, hnn⟩⟩ := hc
      · exact ld_glob (X := X.suite a ((a, oe3) :: (X.pn ++ pins))) S3 hg hm q hdbg
      · exact ld_blt (X := X.suite a ((a, oe3) :: (X.pn ++ pins))) S3 hg hm hv q hnn hdbg
    have go : ∀ {hA : List ExceptHandler} {lA : List (Value × Option Nat × HTS)}, HdsA X hA lA → wHds X.K Wo D lA cls d σA HA →
        wpAny (model X.prog X.w) X.A (handleBy (.ref a) X.env hA) (SP X pins D) X.xe { s' with heap := g3 } := by
      intro hA lA hk
      induction hk with
      | nil =>
        intro w
        refine wpAny_handleBy_nil ?_
        obtain ⟨k1, k2, k3, oe, vs, T, oT, ts', he, hz, hd, h1, hr⟩ := id fl3
        unfold PySem.passOn
        refine wpAny_bind (wpAny_field he hd h1 ?_)
        rw [if_neg (show ¬ ((Value.ref T == Value.none) = true) from by simp)]
        have fin : wpAny (model X.prog X.w) X.A (setFlight (.ref a) X.env.frame) (fun _ s4 => wpAny (model X.prog X.w) X.A (throw (.ref a) : Sem Flow) (SP X pins D) X.xe s4) X.xe { s' with heap := g3 } := by
          rw [hf]
          refine HandSPX.setFlight_upZ fl3 fun g4 hh4 up4 => wpAny_throw (tk _ _ ?_)
          exact ⟨a, B, sI, pins, σA, HA, cls, d, rfl, J, nb, (up.trans up3).trans up4, .inr (.inr (by rw [hs]; exact hh4)), na, osA, ag, w⟩
        first
          | exact wpAny_bind (wpAny_pure (wpAny_bind fin))
          | exact wpAny_bind fin
      | @bare x c ts b₀ su np ps hds2 l2 hc hsu r ih =>
        intro w
        obtain ⟨b, hb1, hyes, hno⟩ := w
        refine wpAny_handleBy_cons (codeAny_handlers_test ?_) (by intro q; cases q)
        have LM := PySem.W.exm_one (M := model X.prog X.w) (J3.kIn) LT hb1
        refine test hc (LM.here ?_)
        cases b with
        | true =>
          refine codeAny_handlers_suite ?_
          refine HandSPX.lands_againZ fl3 fun g4 fl4 up4 => ?_
          have J4 : Inv X pins σA HA { s' with heap := g4 } := J.landed nb fl4.1 ((up.trans up3).trans up4) osA ag
          obtain ⟨oe4, vs4, he4, hz4, hd4⟩ := fl4.there
          have S4 := J4.suite he4 hd4 na nL nF
          refine wpAny_mono ((hsu a oe4 cls d (X.pn ++ pins) hz4 ⟨_, hd4⟩).run [] _ _ HA _ S4 (hyes rfl a na)) (fun fl s6 hsp => ?_) (fun _ _ z => False.elim z)
          cases fl with
          | next =>
            obtain ⟨σ6, H6, S6, q6⟩ := hsp
            exact ⟨_, _, S6.unsuite okX, q6⟩
          | brk =>
            obtain ⟨σ6, H6, S6, q6⟩ := hsp
            exact ⟨_, _, S6.unsuite okX, q6⟩
          | cont =>
            obtain ⟨σ6, H6, S6, q6⟩ := hsp
            exact ⟨_, _, S6.unsuite okX, q6⟩
          | ret u =>
            obtain ⟨v6, σ6, H6, S6, r6, q6⟩ := hsp
            exact ⟨_, _, _, S6.unsuite okX, r6, q6⟩
        | false =>
          show wpAny _ X.A (handleBy (.ref a) X.env hds2) _ _ _
          exact ih (hno rfl)
      | @named x n i c ts b₀ su np ps hds2 l2 hc hi hl hsu r ih =>
        intro w
        obtain ⟨b, hb1, hyes, hno⟩ := w
        refine wpAny_handleBy_cons (codeAny_handlers_test ?_) (by intro q; cases q)
        have LM := PySem.W.exm_one (M := model X.prog X.w) (J3.kIn) LT hb1
        refine test hc (LM.here ?_)
        cases b with
        | true =>
          refine codeAny_handlers_suite_as ?_
          refine HandSPX.lands_againZ fl3 fun g4 fl4 up4 => ?_
          have J4 : Inv X pins σA HA { s' with heap := g4 } := J.landed nb fl4.1 ((up.trans up3).trans up4) osA ag
          obtain ⟨oe4, vs4, he4, hz4, hd4⟩ := fl4.there
          have S4 := J4.suite he4 hd4 na nL nF
          refine store_ok (X := X.suite a ((a, oe4) :: (X.pn ++ pins))) (v := .ref a) S4 hN hi (.inl hl) rfl (fun s5 S5 => ?_) (.inr hl)
          refine wpAny_mono ((hsu a oe4 cls d (X.pn ++ pins) hz4 ⟨_, hd4⟩).run [] s5 _ HA _ S5 (hyes rfl a na)) (fun fl s6 hsp => ?_) (fun _ _ z => False.elim z)
          have fin : ∀ {σ6 : St} {H6 : Hp} {Q : Shared → Prop}, Inv (X.suite a ((a, oe4) :: (X.pn ++ pins))) [] σ6 H6 s6 → (∀ s7, Inv X pins (σ6.set i none) H6 s7 → Q s7) →
              wpAny (model X.prog X.w) X.A (do bindName X.env n .none; unbindBehindTheSuite X.env n ps) (fun _ s7 => Q s7) X.xe s6 := fun {σ6 H6 Q} S6 hq => gone_ok (S6.unsuite okX) hN hi hl hq
          cases fl with
          | next =>
            obtain ⟨σ6, H6, S6, q6⟩ := hsp
            exact fin S6 fun s7 J7 => ⟨_, _, J7, q6⟩
          | brk =>
            obtain ⟨σ6, H6, S6, q6⟩ := hsp
            exact fin S6 fun s7 J7 => ⟨_, _, J7, q6⟩
          | cont =>
            obtain ⟨σ6, H6, S6, q6⟩ := hsp
            exact fin S6 fun s7 J7 => ⟨_, _, J7, q6⟩
          | ret u =>
            obtain ⟨v6, σ6, H6, S6, r6, q6⟩ := hsp
            exact fin S6 fun s7 J7 => ⟨_, _, _, J7, r6, q6⟩
        | false =>
          show wpAny _ X.A (handleBy (.ref a) X.env hds2) _ _ _
          exact ih (hno rfl)
    exact go hh w
  · cases fl with
    | next =>
      obtain ⟨σA, HA, JA, q⟩ := hsp
      exact wpAny_execs_nil ⟨σA, HA, JA.ofTry okX, q⟩
    | brk =>
      obtain ⟨σA, HA, JA, q⟩ := hsp
      exact ⟨σA, HA, JA.ofTry okX, q⟩
    | cont =>
      obtain ⟨σA, HA, JA, q⟩ := hsp
      exact ⟨σA, HA, JA.ofTry okX, q⟩
    | ret u =>
      obtain ⟨v, σA, HA, JA, r, q⟩ := hsp
      exact ⟨v, σA, HA, JA.ofTry okX, r, q⟩
end
end Gn

set_option Elab.async false
set_option linter.all false
set_option maxRecDepth 100000
set_option maxHeartbeats 4000000
namespace Gn
open PySem PySem.Spec PyProof.Rows L2
variable [Tbls]

/-! ### try: where its clauses run -/
theorem CNm.uniq {X : Cx} {x : Str} {c d : Value} (h : CNm X x c) (k : CNm X x d) : c = d := by
  rcases h with h | ⟨h1, h2, _⟩ <;> rcases k with k | ⟨k1, k2, _⟩
  · rw [h] at k; cases k; rfl
  · rw [h] at k1; cases k1
  · rw [h1] at k; cases k
  · rw [h2] at k2; cases k2; rfl
def Sy.hot (Y : Sy) (o : Option Nat) : Sy := { Y with x := { Y.x with hot := true, hs := o, lam := false }, io := o.toList ++ Y.io }
def Cl.at (cl : Cl) (a d : Addr) (o : Option Nat) : Cl := { cl with xa := a, xd := d, xs := o.getD 0 }
section
variable {K : PySem.W.Frag} {H : Hp} {hid hid' : List Addr}
theorem OwnS.frzAll (s : ∀ a ∈ hid', a ∈ hid) (ho : HidOk H hid') : ∀ {ρ : Rho} {σ : St} {fp : List Addr}, OwnS K H hid ρ σ fp → (∀ a ∈ fp, a ∉ hid') → OwnS K H hid' (ρ.map freezeT) σ []
  | _, _, _, .nil, _ => .nil
  | _, _, _, .non x h, k => .non x (OwnS.frzAll s ho h k)
  | _, _, _, .cons h r n, k => .cons (fp := []) (fq := []) (.fz (h.rep s ho fun a ha => k a (List.mem_append_left _ ha))) (OwnS.frzAll s ho r fun a ha => k a (List.mem_append_right _ ha)) (fun _ z => nomatch z)
end
section
variable {K : PySem.W.Frag} {cl : Cl} {b : Bs} {ρ : Rho} {σ : St} {H : Hp} {fp : List Addr}
theorem SRf.frzAll (h : SRf K b ρ σ H fp) : SRf K { b with kept := H } (ρ.map freezeT) σ H [] :=
  ⟨Ext.refl H, (fun _ z => nomatch z), (fun _ z => nomatch z), h.ho, h.ow.frzAll (fun a ha => List.mem_append_right _ ha) h.ho h.nf, h.io, h.ln, h.tb⟩
/-- a slot pinned -/
theorem SRf.pin {i : Nat} {v : V} (h : SRf K b ρ σ H []) (hi : i < b.n) (ni : ∀ p ∈ b.io, p.1 ≠ i) : ∃ fq, SRf K { b with io := (i, v) :: b.io } (ρ.set i none) (σ.set i (some v)) H fq := by
  obtain ⟨f2, o2, s2⟩ := h.ow.forget i (some v)
  have e : f2 = [] := List.eq_nil_iff_forall_not_mem.mpr fun a ha => nomatch s2 a ha
  subst e
  refine ⟨[], h.kp, (fun _ z => nomatch z), (fun _ z => nomatch z), h.ho, o2, fun p hp => ?_, by rw [List.length_set]; exact h.ln, h.tb⟩
  rcases List.mem_cons.mp hp with z | z
  · rw [z]
    exact List.getElem?_set_self (by rw [h.ln]; exact hi)
  · rw [List.getElem?_set_ne (Ne.symm (ni p z))]
    exact h.io p z
/-- .. and left -/
theorem SR.unpin {b' : Bs} {i : Nat} (h : SR K b' ρ σ H) (hk : Ext b.kept b'.kept) (hf : b'.frn = b.frn) (hn : b'.n = b.n) (hT : b'.T = b.T) (hio : ∀ p ∈ b.io, p ∈ b'.io ∧ p.1 ≠ i) : SR K b (ρ.set i none) (σ.set i none) H := by
  obtain ⟨fp, h⟩ := h
  obtain ⟨f2, o2, s2⟩ := h.ow.forget i none
  refine ⟨f2, hk.trans h.kp, fun a ha => none_sub hk (h.nk a (s2 a ha)), fun a ha => by rw [← hf]; exact h.nf a (s2 a ha), by rw [← hf]; exact h.ho, ?_, fun p hp => ?_, by rw [List.length_set, ← hn]; exact h.ln, h.tb⟩
  · rw [← hf]
    exact o2.keep (keep_less fun a ha => (List.mem_append.mp ha).elim (fun z => List.mem_append_left _ (s2 a z)) fun z => List.mem_append_right _ z)
  · rw [List.getElem?_set_ne (Ne.symm (hio p hp).2)]
    exact h.io p (hio p hp).1
theorem SR.less {b' : Bs} (h : SR K b' ρ σ H) (hk : Ext b.kept b'.kept) (hf : b'.frn = b.frn) (hn : b'.n = b.n) (hT : b'.T = b.T) (hio : ∀ p ∈ b.io, p ∈ b'.io) : SR K b ρ σ H := by
  obtain ⟨fp, h⟩ := h
  exact ⟨fp, hk.trans h.kp, fun a ha => none_sub hk (h.nk a ha), fun a ha => by rw [← hf]; exact h.nf a ha, by rw [← hf]; exact h.ho, by rw [← hf]; exact h.ow, fun p hp => h.io p (hio p hp), by rw [← hn]; exact h.ln, h.tb⟩
theorem New.less {b' : Bs} {t : T} {v : V} {f : List Addr} (h : New K b' ρ σ H fp t v f) (hk : Ext b.kept b'.kept) (hf : b'.frn = b.frn) (hn : b'.n = b.n) (hT : b'.T = b.T) (hio : ∀ p ∈ b.io, p ∈ b'.io) : New K b ρ σ H fp t v f := by
  have s := h.sr
  refine ⟨⟨hk.trans s.kp, fun a ha => none_sub hk (s.nk a ha), fun a ha => by rw [← hf]; exact s.nf a ha, by rw [← hf]; exact s.ho, by rw [← hf]; exact s.ow, fun p hp => s.io p (hio p hp), by rw [← hn]; exact s.ln, s.tb⟩,
    fun a ha => none_sub hk (h.nk a ha), h.np, fun a ha => by rw [← hf]; exact h.nf a ha, by rw [← hf]; exact h.ow, by rw [← hf]; exact h.os⟩
end
section
variable {Y : Sy} {G : Gam} {cl : Cl} {sc : Scope} {X : Cx} {W : WX}
abbrev W0 : WX := fun _ _ _ _ => False
def hTs (X : Cx) (Y : Sy) (G : Gam) (cl : Cl) (o : Option Nat) (b : List S) : HTS := fun a cls d E σ H => ∃ c fs dd, cls = .ref (cl.ca c) ∧ d = some dd ∧ G.cok c = true ∧ tSs X.K (Y.hot o) (G.hot o c fs) (cl.at a dd o) W0 b E σ H
theorem ClsF.tr {S S' : Sx} {G G' : Gam} {cl cl' : Cl} {X X' : Cx} {c : Nat} (h : ClsF S G cl X c) (e1 : X'.K = X.K) (e2 : X'.mg = X.mg) (e3 : S'.cn = S.cn) (e4 : G'.xf = G.xf) (e5 : G'.isub = G.isub) (e6 : cl'.ca = cl.ca) (e7 : cl'.cf = cl.cf) : ClsF S' G' cl' X' c := by
  have cn : ∀ x v, CNm X' x v ↔ CNm X x v := fun x v => by unfold CNm; rw [e2]
  refine ⟨by rw [e1, e6]; exact h.xfc, by rw [e1, e4, e6, e7]; exact h.xf, by rw [e1, e6]; exact h.isc, ?_⟩
  rw [e1, e3, e5, e6]
  intro k x hk
  obtain ⟨cv, v, h1, h2⟩ := h.sub k x hk
  exact ⟨cv, v, (cn x cv).mpr h1, h2⟩
theorem FnXG.at {cok : Nat → Bool} {m : Nat → List D → R T} {x : Str} {a d : Addr} {o : Option Nat} (h : FnXG X cl cok m x) : FnXG X (cl.at a d o) cok m x := by
  obtain ⟨f, fd, ps, n, h1, h2, ⟨h3, h4⟩, h5, h6⟩ := h
  exact ⟨f, fd, ps, n, h1, h2, ⟨h3, h4⟩, h5, h6⟩
/-- where a clause's suite runs -/
theorem SX.suite (g : SX Y G cl sc X W) (hh : Y.x.hot = false) {a : Addr} {oe : Obj} {cls : Value} {d : Option Addr} {pn : List (Addr × Obj)} {c : Nat} {fs : List D} {dd : Addr} {o : Option Nat} (hz : Zc cls d oe) (hd : ∃ vs, oe.data = .fields vs) (e1 : cls = .ref (cl.ca c)) (e2 : d = some dd) (cok : G.cok c = true) :
    SX (Y.hot o) (G.hot o c fs) (cl.at a dd o) sc (X.suite a ((a, oe) :: pn)) W0 := by
  subst e1 e2
  have nh : ∀ {P : Prop}, (Y.hot o).x.hot = false → P := fun z => Bool.noConfusion (show true = false from z)
  refine ⟨⟨g.N, g.nd, g.sc, fun z => nh z, fun z => Bool.noConfusion (show false = true from z), fun z => nh z, g.hu, ?_, g.gl, g.bt, fun z => nh z, fun c' fs' e => ?_, fun z => Bool.noConfusion (show false = true from z)⟩, ?_, g.fnt, g.stk, g.frm, fun z => nh z, fun z => nh z, fun z => nh z, fun z => nh z, fun z => nh z⟩
  · intro u s' x
    obtain ⟨_, _, _, _, _, _, _, _, _, _, _, _, _, _, _, _, z⟩ := x
    exact z.elim
  · cases o with
    | none => cases e
    | some i =>
      cases e
      exact ⟨rfl, ⟨oe, List.mem_cons_self, hz, hd⟩, (g.ecl hh c cok).tr rfl rfl rfl rfl rfl rfl rfl, cok, fun k x hk => (g.hfx hh a oe pn k x hk).at, fun k x hk => g.hfd hh a oe pn k x hk⟩
  · exact PassesOwn.never
/-- what a suite's end is worth -/
theorem suite_in {o : Option Nat} {hb : List S} {b : Bs} {ρ : Rho} {σ : St} {H : Hp} {c : Nat} {fs : List D} {d a : Addr} {E : Ends} {x : Option Str} (hw : ∀ i, o = some i → i < Y.x.N.length ∧ ∀ p ∈ b.io, p.1 ≠ i) (ei : b.io.map Prod.fst = Y.io) (en : BN X.K Y G cl b)
    (sr : SR X.K b ρ σ H) (xr : ExR X.K cl H b.frn c fs d) (q : SOut X.K cl b W E ((S.runs (G.hot o c fs) hb (hin o ρ)).hend o)) : tSs X.K (Y.hot o) (G.hot o c fs) (cl.at a d o) W0 hb (hEnds o E) (hSt o a σ) H := by
  obtain ⟨fp, sr⟩ := sr
  obtain ⟨vs, x1, x2⟩ := xr
  have fz := sr.frzAll
  cases o with
  | none =>
    refine ⟨{ b with kept := H }, ρ.map freezeT, ei, ⟨en.n, ⟨en.x.eT, fun c fs e => by cases e⟩⟩, ⟨[], fz⟩, ?_⟩
    have q : SOut X.K cl b W E ((S.runs (G.hot none c fs) hb (ρ.map freezeT)).hend none) := q
    cases er : S.runs (G.hot none c fs) hb (ρ.map freezeT) with
    | nx ρ2 => rw [er] at q; exact fun σ2 H2 s2 => q σ2 H2 (s2.less sr.kp rfl rfl rfl fun p hp => hp)
    | bk ρ2 => rw [er] at q; exact fun σ2 H2 s2 => q σ2 H2 (s2.less sr.kp rfl rfl rfl fun p hp => hp)
    | ct ρ2 => rw [er] at q; exact fun σ2 H2 s2 => q σ2 H2 (s2.less sr.kp rfl rfl rfl fun p hp => hp)
    | rt t ρ2 => rw [er] at q; exact fun v σ2 H2 f fp n => q v σ2 H2 f fp (n.less sr.kp rfl rfl rfl fun p hp => hp)
    | ex _ _ _ => rw [er] at q; exact q.elim
    | no => rw [er] at q; exact q.elim
  | some i =>
    obtain ⟨w1, w2⟩ := hw i rfl
    obtain ⟨fq, pn⟩ := fz.pin (i := i) (v := .ref a) (by show i < b.n; rw [en.n]; exact w1) w2
    refine ⟨{ b with kept := H, io := (i, .ref a) :: b.io }, (ρ.map freezeT).set i none, ?_, ⟨en.n, ⟨en.x.eT, fun c' fs' e => ?_⟩⟩, ⟨fq, pn⟩, ?_⟩
    · show i :: b.io.map Prod.fst = i :: Y.io
      rw [ei]
    · cases e
      exact ⟨List.mem_cons_self, vs, x1, x2⟩
    · have q : SOut X.K cl b W E ((S.runs (G.hot (some i) c fs) hb ((ρ.map freezeT).set i none)).hend (some i)) := q
      have io2 : ∀ p ∈ b.io, p ∈ (i, V.ref a) :: b.io ∧ p.1 ≠ i := fun p hp => ⟨List.mem_cons_of_mem _ hp, w2 p hp⟩
      cases er : S.runs (G.hot (some i) c fs) hb ((ρ.map freezeT).set i none) with
      | nx ρ2 => rw [er] at q; exact fun σ2 H2 s2 => q (σ2.set i none) H2 (s2.unpin sr.kp rfl rfl rfl io2)
      | bk ρ2 => rw [er] at q; exact fun σ2 H2 s2 => q (σ2.set i none) H2 (s2.unpin sr.kp rfl rfl rfl io2)
      | ct ρ2 => rw [er] at q; exact fun σ2 H2 s2 => q (σ2.set i none) H2 (s2.unpin sr.kp rfl rfl rfl io2)
      | rt t ρ2 => rw [er] at q; exact fun v σ2 H2 f fp n => q v σ2 H2 f fp (n.less sr.kp rfl rfl rfl fun p hp => (io2 p hp).1)
      | ex _ _ _ => rw [er] at q; exact q.elim
      | no => rw [er] at q; exact q.elim
/-- the clauses, by their meaning -/
structure HdsR (X : Cx) (Y : Sy) (G : Gam) (cl : Cl) (W : WX) (h : S) (hds : List ExceptHandler) : Prop where
  ex : ∃ l, HdsA X hds l ∧ ∀ (b : Bs) (E : Ends) (c : Nat) (fs : List D) (ρ : Rho) (σ : St) (H : Hp) (d : Addr), b.io.map Prod.fst = Y.io → BN X.K Y G cl b → G.cok c = true → SR X.K b ρ σ H → ExR X.K cl H b.frn c fs d → SOut X.K cl b W E (S.hds G h c fs ρ) → wHds X.K W E l (.ref (cl.ca c)) (some d) σ H
theorem hds_nil : HdsR X Y G cl W .hnil [] := ⟨[], .nil, fun b E c fs ρ σ H d _ _ _ sr x q => q σ H d sr x⟩
def nmB (Y : Sy) (sc : Scope) : Option Nat → Option Str → Bool
  | none, none => true
  | some i, some n => decide (Y.x.N[i]? = some n) && (decide (sc.names.lookup n = some .local) && !Y.io.contains i)
  | _, _ => false
theorem hds_cons {k : Nat} {o : Option Nat} {hb : List S} {r : S} {x : Str} {np ps : Pos} {nm : Option Str} {b₀ : Stmt} {su : List Stmt} {hds : List ExceptHandler} (g : SX Y G cl sc X W) (hh : Y.x.hot = false) (hk : Y.x.cn[k]? = some x) (hg : glB sc x = true) (hn : okName x = true) (hm : nmB Y sc o nm = true)
    (ih : ∀ (a : Addr) (oe : Obj) (pn : List (Addr × Obj)) (c : Nat) (fs : List D) (dd : Addr), SX (Y.hot o) (G.hot o c fs) (cl.at a dd o) sc (X.suite a ((a, oe) :: pn)) W0 → PSs (X.suite a ((a, oe) :: pn)) (b₀ :: su) (tSs X.K (Y.hot o) (G.hot o c fs) (cl.at a dd o) W0 hb))
    (hr : HdsR X Y G cl W r hds) : HdsR X Y G cl W (.hcons k o hb r) (.ExceptHandler (some (.Name x np)) nm (b₀ :: su) ps :: hds) := by
  obtain ⟨l, h1, h2⟩ := hr.ex
  obtain ⟨cv, n1⟩ := g.cnm hh k x hk
  have nmx : Names X x cv := ⟨gl_of g.sc hg, (okN hn).1, n1⟩
  have hsu : ∀ (a : Addr) (oe : Obj) (cls : Value) (d : Option Addr) (pn : List (Addr × Obj)), Zc cls d oe → (∃ vs, oe.data = .fields vs) → PSs (X.suite a ((a, oe) :: pn)) (b₀ :: su) (hTs X Y G cl o hb a cls d) := fun a oe cls d pn hz hd => by
    refine ⟨fun pins s σ H D I ⟨c, fs, dd, e1, e2, cok, q⟩ => ?_⟩
    exact (ih a oe pn c fs dd (g.suite hh hz hd e1 e2 cok)).run pins s σ H D I q
  have key : ∀ (hw : ∀ i, o = some i → i < Y.x.N.length ∧ ¬ i ∈ Y.io) (b : Bs) (E : Ends) (c : Nat) (fs : List D) (ρ : Rho) (σ : St) (H : Hp) (d : Addr), b.io.map Prod.fst = Y.io → BN X.K Y G cl b → G.cok c = true → SR X.K b ρ σ H → ExR X.K cl H b.frn c fs d → SOut X.K cl b W E (S.hds G (.hcons k o hb r) c fs ρ) →
      wHds X.K W E ((cv, o, hTs X Y G cl o hb) :: l) (.ref (cl.ca c)) (some d) σ H := fun hw b E c fs ρ σ H d ei en cok sr xr q => by
    have q : SOut X.K cl b W E (if G.isub c k then (S.runs (G.hot o c fs) hb (hin o ρ)).hend o else S.hds G r c fs ρ) := q
    obtain ⟨cv', v, k1, k2, k3, k4⟩ := (g.ecl hh c cok).sub k x hk
    obtain rfl := CNm.uniq k1 n1
    refine ⟨_, k4, fun e a ha => ?_, fun e => ?_⟩
    · rw [if_pos e] at q
      refine ⟨c, fs, d, rfl, rfl, cok, suite_in (x := none) (fun i ho => ⟨(hw i ho).1, fun p hp z => (hw i ho).2 ?_⟩) ei en sr xr q⟩
      rw [← ei, ← z]
      exact List.mem_map_of_mem hp
    · rw [if_neg (by rw [e]; intro z; cases z)] at q
      exact h2 b E c fs ρ σ H d ei en cok sr xr q
  cases o with
  | none =>
    cases nm with
    | some _ => cases hm
    | none => exact ⟨_, .bare nmx hsu h1, key (fun i z => by cases z)⟩
  | some i =>
    cases nm with
    | none => cases hm
    | some n =>
      obtain ⟨m1, m2⟩ := b2 (show (decide (Y.x.N[i]? = some n) && (decide (sc.names.lookup n = some .local) && !Y.io.contains i)) = true from hm)
      obtain ⟨m2, m3⟩ := b2 m2
      have m1 := of_decide_eq_true m1
      exact ⟨_, .named nmx (by rw [g.N]; exact m1) (g.sc.loc n (of_decide_eq_true m2)) hsu h1, key (fun j z => by
        cases z
        exact ⟨(List.getElem?_eq_some_iff.mp m1).1, by simpa using m3⟩)⟩
theorem st_try {bd : List S} {h : S} {body : List Stmt} {h₀ : ExceptHandler} {hds : List ExceptHandler} {pos : Pos} (g : SX Y G cl sc X W) (hh : Y.x.hot = false)
    (ih : ∀ (pn : List (Addr × Obj)) (xe : Value → Shared → Prop) (W' : WX), SX Y G cl sc (X.tr pn xe) W' → PSs (X.tr pn xe) body (tSs X.K Y G cl W' bd)) (hr : HdsR X Y G cl W h (h₀ :: hds)) : PS X (.Try body (h₀ :: hds) [] [] pos) (tS X.K Y G cl W (.tryx bd h)) := by
  obtain ⟨l, h1, h2⟩ := hr.ex
  refine PS.mono (ps_tryA (tb := fun W' => tSs X.K Y G cl W' bd) g.stk g.frm g.nd g.tk (fun W' pn xe tk po => ih pn xe W' ?_) h1) fun E σ H hq => at_tR hq fun b ρ fp ei en sr q => ?_
  · exact ⟨⟨g.N, g.nd, g.sc, g.calm, g.cm, g.cold, g.hu, tk, g.gl, g.bt, g.fn, fun c fs e => absurd (g.cold hh) (by rw [e]; intro z; cases z), g.lm⟩, po, g.fnt, g.stk, g.frm, fun z pn' xe' => g.exn z pn' xe', fun z c hc => (g.ecl z c hc).tr rfl rfl rfl rfl rfl rfl rfl, g.cnm, g.hfx, g.hfd⟩
  · have q : SOut X.K cl b W E (match S.runs G bd ρ with
      | .ex c fs ρ' => if G.cok c then S.hds G h c fs ρ' else .no
      | r => r) := q
    refine ⟨b, ρ, ei, en, ⟨fp, sr⟩, ?_⟩
    cases er : S.runs G bd ρ with
    | ex c fs ρ' =>
      rw [er] at q
      have q : SOut X.K cl b W E (if G.cok c then S.hds G h c fs ρ' else .no) := q
      by_cases cok : G.cok c = true
      · rw [if_pos cok] at q
        exact fun σ2 H2 d s2 xr => h2 b E c fs ρ' σ2 H2 d ei en cok s2 xr q
      · rw [if_neg cok] at q
        exact q.elim
    | nx _ => rw [er] at q; exact q
    | bk _ => rw [er] at q; exact q
    | ct _ => rw [er] at q; exact q
    | rt _ _ => rw [er] at q; exact q
    | no => rw [er] at q; exact q
end
end Gn

set_option Elab.async false
set_option linter.all false
set_option maxRecDepth 100000
set_option maxHeartbeats 4000000
namespace Gn
open PySem PySem.Spec PyProof.Rows L2
variable [Tbls]

/-! ### calls that change the slots' lists -/
section
variable {K : PySem.W.Frag} {H H' : Hp} {hid hid' : List Addr} {ρ : Rho} {σ : St}
/-- arguments told: what they hold -/
inductive Hd (K : PySem.W.Frag) (H : Hp) (hid : List Addr) (ρ : Rho) (σ : St) : List Ag → List T → List V → List Addr → Prop
  | nil : Hd K H hid ρ σ [] [] [] []
  | val {p : P} {m : Md} {as : List Ag} {d : D} {v : V} {ts : List T} {vs : List V} {f : List Addr} : Rep K (hide H hid) d v → Hd K H hid ρ σ as ts vs f → Hd K H hid ρ σ (.val p m :: as) (.fz d :: ts) (v :: vs) f
  | itm {i : Nat} {p : P} {as : List Ag} {d : D} {v : V} {ts : List T} {vs : List V} {f : List Addr} : Rep K (hide H hid) d v → Hd K H hid ρ σ as ts vs f → Hd K H hid ρ σ (.itm i p :: as) (.fz d :: ts) (v :: vs) f
  | slot {i : Nat} {as : List Ag} {t : T} {v : V} {ts : List T} {vs : List V} {f : List Addr} : ρ[i]? = some (some t) → σ[i]? = some (some v) → Hd K H hid ρ σ as ts vs f → Hd K H hid ρ σ (.slot i :: as) (t :: ts) (v :: vs) f
  | tmp {p : P} {as : List Ag} {t : T} {v : V} {ts : List T} {vs : List V} {f1 f : List Addr} : Own K H hid t v f1 → Hd K H hid ρ σ as ts vs f → (∀ a ∈ f1, a ∉ f) → Hd K H hid ρ σ (.tmp p :: as) (t :: ts) (v :: vs) (f1 ++ f)
theorem Hd.keep : ∀ {as : List Ag} {ts : List T} {vs : List V} {f : List Addr}, Hd K H hid ρ σ as ts vs f → Keep H H' hid hid' f → Hd K H' hid' ρ σ as ts vs f
  | _, _, _, _, .nil, _ => .nil
  | _, _, _, _, .val r h, k => .val (r.sub k.vis) (h.keep k)
  | _, _, _, _, .itm r h, k => .itm (r.sub k.vis) (h.keep k)
  | _, _, _, _, .slot e1 e2 h, k => .slot e1 e2 (h.keep k)
  | _, _, _, _, .tmp o h n, k => .tmp (o.keep (k.less fun a ha => List.mem_append_left _ ha)) (h.keep (k.less fun a ha => List.mem_append_right _ ha)) n
theorem Hd.length : ∀ {as : List Ag} {ts : List T} {vs : List V} {f : List Addr}, Hd K H hid ρ σ as ts vs f → vs.length = as.length
  | _, _, _, _, .nil => rfl
  | _, _, _, _, .val _ h => by simp [h.length]
  | _, _, _, _, .itm _ h => by simp [h.length]
  | _, _, _, _, .slot _ _ h => by simp [h.length]
  | _, _, _, _, .tmp _ h _ => by simp [h.length]
theorem Hd.at_ : ∀ {as : List Ag} {ts : List T} {vs : List V} {f : List Addr}, Hd K H hid ρ σ as ts vs f → ∀ {i j : Nat}, as[i]? = some (.slot j) → ∃ v, vs[i]? = some v ∧ σ[j]? = some (some v)
  | _, _, _, _, .nil, i, j, e => by simp at e
  | _, _, _, _, .val _ h, 0, j, e => by simp at e
  | _, _, _, _, .val _ h, i + 1, j, e => by
    obtain ⟨v, e1, e2⟩ := h.at_ (i := i) (j := j) (by simpa using e)
    exact ⟨v, by simpa using e1, e2⟩
  | _, _, _, _, .itm _ h, 0, j, e => by simp at e
  | _, _, _, _, .itm _ h, i + 1, j, e => by
    obtain ⟨v, e1, e2⟩ := h.at_ (i := i) (j := j) (by simpa using e)
    exact ⟨v, by simpa using e1, e2⟩
  | _, _, _, _, .slot e1 e2 h, 0, j, e => by
    simp at e
    subst e
    exact ⟨_, rfl, e2⟩
  | _, _, _, _, .slot _ _ h, i + 1, j, e => by
    obtain ⟨v, e1, e2⟩ := h.at_ (i := i) (j := j) (by simpa using e)
    exact ⟨v, by simpa using e1, e2⟩
  | _, _, _, _, .tmp _ h _, 0, j, e => by simp at e
  | _, _, _, _, .tmp _ h _, i + 1, j, e => by
    obtain ⟨v, e1, e2⟩ := h.at_ (i := i) (j := j) (by simpa using e)
    exact ⟨v, by simpa using e1, e2⟩
/-- the slots' lists taken out, beside what is held -/
theorem Hd.gather {ρ0 : Rho} : ∀ {as : List Ag} {ts : List T} {vs : List V} {f : List Addr}, Hd K H hid ρ0 σ as ts vs f → ∀ {ρ : Rho} {fp : List Addr}, OwnS K H hid ρ σ fp → (∀ i ∈ Ag.slots as, ρ[i]? = ρ0[i]?) → (Ag.slots as).Nodup → (∀ a ∈ f, a ∉ fp) →
    ∃ fc fr, Owns K H hid ts vs fc ∧ OwnS K H hid (Ag.blank as ρ) σ fr ∧ (∀ a ∈ fc, a ∉ fr) ∧ ∀ a, (a ∈ fc ∨ a ∈ fr) ↔ (a ∈ f ∨ a ∈ fp)
  | _, _, _, _, .nil, ρ, fp, o, _, _, _ => ⟨[], fp, .nil, o, (fun _ z => nomatch z), fun a => Iff.rfl⟩
  | _, _, _, _, .val r h, ρ, fp, o, e, nd, dj => by
    obtain ⟨fc, fr, h1, h2, h3, h4⟩ := h.gather o e nd dj
    exact ⟨[] ++ fc, fr, .cons (.fz r) h1 (fun _ z => nomatch z), h2, h3, h4⟩
  | _, _, _, _, .itm r h, ρ, fp, o, e, nd, dj => by
    obtain ⟨fc, fr, h1, h2, h3, h4⟩ := h.gather o e nd dj
    exact ⟨[] ++ fc, fr, .cons (.fz r) h1 (fun _ z => nomatch z), h2, h3, h4⟩
  | _, _, _, _, .slot (i := i) e1 e2 h, ρ, fp, o, e, nd, dj => by
    obtain ⟨nd1, nd2⟩ := List.nodup_cons.mp (show (i :: Ag.slots _).Nodup from nd)
    have ei := e i (List.mem_cons_self ..)
    rw [e1] at ei
    obtain ⟨v, f1, f2, k1, k2, k3, k4, k5⟩ := o.take ei
    rw [e2] at k1
    cases k1
    obtain ⟨fc, fr, h1, h2, h3, h4⟩ := h.gather k3 (fun j hj => by
      have ne : i ≠ j := fun z => nd1 (z ▸ hj)
      rw [List.getElem?_set_ne ne]
      exact e j (List.mem_cons_of_mem _ hj)) nd2 fun a ha z => dj a ha ((k5 a).mpr (.inr z))
    refine ⟨f1 ++ fc, fr, .cons k2 h1 fun a ha z => ?_, h2, fun a ha z => ?_, fun a => ?_⟩
    · rcases (h4 a).mp (.inl z) with q | q
      · exact dj a q ((k5 a).mpr (.inl ha))
      · exact k4 a ha q
    · rcases List.mem_append.mp ha with q | q
      · rcases (h4 a).mp (.inr z) with w | w
        · exact dj a w ((k5 a).mpr (.inl q))
        · exact k4 a q w
      · exact h3 a q z
    · rw [List.mem_append, k5 a]
      constructor
      · rintro ((z | z) | z)
        · exact .inr (.inl z)
        · exact ((h4 a).mp (.inl z)).imp id .inr
        · exact ((h4 a).mp (.inr z)).imp id .inr
      · rintro (z | z | z)
        · exact ((h4 a).mpr (.inl z)).imp .inr id
        · exact .inl (.inl z)
        · exact ((h4 a).mpr (.inr z)).imp .inr id
  | _, _, _, _, .tmp (f1 := f1) (f := f) o1 h n, ρ, fp, o, e, nd, dj => by
    obtain ⟨fc, fr, h1, h2, h3, h4⟩ := h.gather o e nd fun a ha => dj a (List.mem_append_right _ ha)
    refine ⟨f1 ++ fc, fr, .cons o1 h1 fun a ha z => ?_, h2, fun a ha z => ?_, fun a => ?_⟩
    · rcases (h4 a).mp (.inl z) with q | q
      · exact n a ha q
      · exact dj a (List.mem_append_left _ ha) q
    · rcases List.mem_append.mp ha with q | q
      · rcases (h4 a).mp (.inr z) with w | w
        · exact n a q w
        · exact dj a (List.mem_append_left _ q) w
      · exact h3 a q z
    · rw [List.mem_append, List.mem_append]
      constructor
      · rintro ((z | z) | z)
        · exact .inl (.inl z)
        · exact ((h4 a).mp (.inl z)).imp .inr id
        · exact ((h4 a).mp (.inr z)).imp .inr id
      · rintro ((z | z) | z)
        · exact .inl (.inl z)
        · exact ((h4 a).mpr (.inl z)).imp .inr id
        · exact ((h4 a).mpr (.inr z)).imp .inr id
/-- .. and put back -/
theorem put_own {as : List Ag} {vs : List V} : ∀ {io : List Nat} {outs : List T} {ρ ρ' : Rho} {fo fr : List Addr}, Owns K H hid outs (pick io vs) fo → OwnS K H hid ρ σ fr → (∀ a ∈ fo, a ∉ fr) → Ag.put as io outs ρ = .ok ρ' →
    (∀ i j : Nat, as[i]? = some (Ag.slot j) → ∃ v, vs[i]? = some v ∧ σ[j]? = some (some v)) → vs.length = as.length → ∃ fq, OwnS K H hid ρ' σ fq ∧ ∀ a ∈ fq, a ∈ fo ∨ a ∈ fr
  | [], [], ρ, ρ', fo, fr, _, o, _, e, _, _ => by
    cases e
    exact ⟨fr, o, fun a ha => .inr ha⟩
  | [], _ :: _, _, _, _, _, _, _, _, e, _, _ => by cases e
  | _ :: _, [], _, _, _, _, _, _, _, e, _, _ => by cases e
  | i :: io, t :: outs, ρ, ρ', fo, fr, w, o, dj, e, hat, hl => by
    have e : (match as[i]? with
      | some (.slot j) => match ρ[j]? with
        | some none => Ag.put as io outs (ρ.set j (some t))
        | _ => .no
      | some (.tmp _) => Ag.put as io outs ρ
      | _ => .no) = .ok ρ' := e
    cases ea : as[i]? with
    | none => rw [ea] at e; cases e
    | some a =>
      rw [ea] at e
      have hi : i < vs.length := by rw [hl]; exact (List.getElem?_eq_some_iff.mp ea).1
      have ev : vs[i]? = some vs[i] := List.getElem?_eq_getElem hi
      have ep : pick (i :: io) vs = vs[i] :: pick io vs := by
        show List.filterMap (fun i => vs[i]?) (i :: io) = _
        rw [List.filterMap_cons, ev]
        rfl
      rw [ep] at w
      cases w with
      | @cons _ _ _ _ f1 f2 o1 o2 n =>
        cases a with
        | val _ _ => cases e
        | itm _ _ => cases e
        | tmp _ =>
          obtain ⟨fq, k1, k2⟩ := put_own o2 o (fun a ha => dj a (List.mem_append_right _ ha)) e hat hl
          exact ⟨fq, k1, fun a ha => (k2 a ha).imp (fun z => List.mem_append_right _ z) id⟩
        | slot j =>
          have e : (match ρ[j]? with
            | some none => Ag.put as io outs (ρ.set j (some t))
            | _ => .no) = .ok ρ' := e
          obtain ⟨v, v1, v2⟩ := hat i j ea
          rw [ev] at v1
          cases v1
          cases er : ρ[j]? with
          | none => rw [er] at e; cases e
          | some x =>
            cases x with
            | some _ => rw [er] at e; cases e
            | none =>
              rw [er] at e
              obtain ⟨lj, qj⟩ := List.getElem?_eq_some_iff.mp er
              have es : ρ.set j none = ρ := by rw [← qj]; simp
              obtain ⟨fq, k1, k2⟩ := OwnS.put (i := j) (t := t) (v := vs[i]) (by rw [es]; exact o) lj o1 fun a ha => dj a (List.mem_append_left _ ha)
              have eσ : σ.set j (some vs[i]) = σ := by
                obtain ⟨l, q⟩ := List.getElem?_eq_some_iff.mp v2
                rw [← q]
                simp
              rw [eσ] at k1
              obtain ⟨fz, m1, m2⟩ := put_own o2 k1 (fun a ha z => by
                rcases (k2 a).mp z with q | q
                · exact n a q ha
                · exact dj a (List.mem_append_right _ ha) q) e hat hl
              refine ⟨fz, m1, fun a ha => ?_⟩
              rcases m2 a ha with q | q
              · exact .inl (List.mem_append_right _ q)
              · exact ((k2 a).mp q).imp (fun z => List.mem_append_left _ z) id
end
section
variable {K : PySem.W.Frag} {cl : Cl} {b : Bs} {ρ : Rho} {σ : St} {H : Hp} {fp : List Addr} {W : WX} {G : Gam}
theorem bx_cold (h : G.hx = none) (eT : b.T = cl.T) : BX K G cl b := ⟨eT, fun c fs e => by rw [h] at e; cases e⟩
/-- a term's value, with how the heap grew -/
theorem tP_ofA {p : P} {m : Md} {Q : VK} (h : SRf K b ρ σ H fp) (x : BX K G cl b) (q : match p.evm G m ρ with
    | .ok t => ∀ v H' f, Ext H H' → (∀ a ∈ f, H a = none) → Own K H' (f ++ (fp ++ b.frn)) t v f → Q v H'
    | .ex c fs => ∀ H' d, Ext H H' → ExR K cl H' b.frn c fs d → W (.ref (cl.ca c)) (some d) σ H'
    | .no => False) : tP K G cl W p σ H Q := by
  cases m with
  | dr =>
    refine ⟨drop ρ, fp ++ b.frn, h.hidok, h.vrd x, ?_⟩
    have q : match p.ev G (drop ρ) with
      | .ok t => ∀ v H' f, Ext H H' → (∀ a ∈ f, H a = none) → Own K H' (f ++ (fp ++ b.frn)) t v f → Q v H'
      | .ex c fs => ∀ H' d, Ext H H' → ExR K cl H' b.frn c fs d → W (.ref (cl.ca c)) (some d) σ H'
      | .no => False := q
    cases e : p.ev G (drop ρ) with
    | ok t =>
      rw [e] at q
      exact fun v H' f s fr o => q v H' f s fr o
    | ex c fs =>
      rw [e] at q
      exact fun H' d s x => q H' d s (x.less fun a ha => List.mem_append_right _ ha)
    | no =>
      rw [e] at q
      exact q
  | lf =>
    refine ⟨ρ, b.frn, h.ho, h.vr x, ?_⟩
    have q : match (do
        let t ← p.ev G ρ
        if t.lf then .ok t else .no : R T) with
      | .ok t => ∀ v H' f, Ext H H' → (∀ a ∈ f, H a = none) → Own K H' (f ++ (fp ++ b.frn)) t v f → Q v H'
      | .ex c fs => ∀ H' d, Ext H H' → ExR K cl H' b.frn c fs d → W (.ref (cl.ca c)) (some d) σ H'
      | .no => False := q
    cases e : p.ev G ρ with
    | ok t =>
      rw [e] at q
      have q : match (if t.lf then .ok t else .no : R T) with
        | .ok t => ∀ v H' f, Ext H H' → (∀ a ∈ f, H a = none) → Own K H' (f ++ (fp ++ b.frn)) t v f → Q v H'
        | .ex c fs => ∀ H' d, Ext H H' → ExR K cl H' b.frn c fs d → W (.ref (cl.ca c)) (some d) σ H'
        | .no => False := q
      by_cases c : t.lf = true
      · rw [if_pos c] at q
        exact fun v H' f s fr o => q v H' f s fr (o.lf (o.lists.app (h.hidok.grow s)) c)
      · rw [if_neg c] at q
        exact q.elim
    | ex c fs =>
      rw [e] at q
      exact fun H' d s x => q H' d s x
    | no =>
      rw [e] at q
      exact q
def AgOut (K : PySem.W.Frag) (cl : Cl) (b : Bs) (W : WX) (ρ : Rho) (σ : St) (fp : List Addr) (H : Hp) (as : List Ag) (r : R (List T)) (Z : List V → Hp → Prop) : Prop := match r with
  | .ok ts => ∀ vs H' f, Ext H H' → (∀ a ∈ f, H a = none) → Hd K H' (f ++ (fp ++ b.frn)) ρ σ as ts vs f → Z vs H'
  | .ex c fs => ∀ H' d, Ext H H' → ExR K cl H' b.frn c fs d → W (.ref (cl.ca c)) (some d) σ H'
  | .no => False
def tAg (K : PySem.W.Frag) (G : Gam) (cl : Cl) (W : WX) (as : List Ag) : TA := fun σ H Z => G.hx = none ∧ ∃ b, b.T = cl.T ∧ ∃ ρ fp, SRf K b ρ σ H fp ∧ AgOut K cl b W ρ σ fp H as (Ag.evs G as ρ) Z
/-- what is fresh is hidden, too -/
theorem hide_more {H H1 : Hp} {f hid : List Addr} (s : Ext H H1) (fr : ∀ a ∈ f, H a = none) : Sub (hide H hid) (hide H1 (f ++ hid)) := hide_mono fun a o n e => ⟨s a o e, fun z => by
  rcases List.mem_append.mp z with q | q
  · rw [fr a q] at e; cases e
  · exact n q⟩
theorem ag_val {p : P} {m : Md} {as : List Ag} {Z : List V → Hp → Prop} (h : tAg K G cl W (.val p m :: as) σ H Z) : tCons (tP K G cl W p) (tAg K G cl W as) σ H Z := by
  obtain ⟨hx, b, eT, ρ, fp, sr, q⟩ := h
  refine tP_ofA (m := m) sr (bx_cold hx eT) ?_
  have q : AgOut K cl b W ρ σ fp H (.val p m :: as) (do
    let t ← (do return T.fz (← p.evm G m ρ).d : R T)
    let ts ← Ag.evs G as ρ
    return t :: ts) Z := q
  cases e : p.evm G m ρ with
  | no => rw [e] at q; exact q
  | ex c fs => rw [e] at q; exact fun H' d s x => q H' d s x
  | ok t =>
    rw [e] at q
    have q : AgOut K cl b W ρ σ fp H (.val p m :: as) (do
      let ts ← Ag.evs G as ρ
      return T.fz t.d :: ts) Z := q
    intro v H1 f1 s fr o
    refine ⟨hx, b, eT, ρ, fp, sr.grow s, ?_⟩
    have hr : Rep K (hide H1 (fp ++ b.frn)) t.d v := o.rep (fun a ha => List.mem_append_right _ ha) (sr.hidok.grow s) fun a ha z => sr.hidok.fresh (fr a ha) z
    cases e2 : Ag.evs G as ρ with
    | no => rw [e2] at q; exact q
    | ex c fs => rw [e2] at q; exact fun H' d s2 x => q H' d (s.trans s2) x
    | ok ts =>
      rw [e2] at q
      exact fun vs H2 f s2 fr2 hd => q (v :: vs) H2 f (s.trans s2) (fun a ha => none_sub s (fr2 a ha)) (.val (hr.sub (hide_more s2 fr2)) hd)
theorem ag_itm {i : Nat} {p : P} {as : List Ag} {Z : List V → Hp → Prop} (h : tAg K G cl W (.itm i p :: as) σ H Z) : tCons (tOp (rIxL K) (tVar i) (tP K G cl W p)) (tAg K G cl W as) σ H Z := by
  obtain ⟨hx, b, eT, ρ, fp, sr, q⟩ := h
  have q : AgOut K cl b W ρ σ fp H (.itm i p :: as) (do
    let t ← (do
      let ts ← slotL ρ i
      let u ← p.ev G ρ
      let n ← ixD ts.length u.d
      let d ← fzT ts[n]?
      return T.fz d : R T)
    let ts ← Ag.evs G as ρ
    return t :: ts) Z := q
  cases e : slotL ρ i with
  | no => rw [e] at q; exact q.elim
  | ex c fs => exact absurd e (slotL_nx _ _ _ _)
  | ok ts0 =>
    rw [e] at q
    have e1 := slotL_ok e
    obtain ⟨a, vs0, g1, f1, l⟩ := (New.none sr).look e1
    have q : AgOut K cl b W ρ σ fp H (.itm i p :: as) (do
      let t ← (do
        let u ← p.ev G ρ
        let n ← ixD ts0.length u.d
        let d ← fzT ts0[n]?
        return T.fz d : R T)
      let ts ← Ag.evs G as ρ
      return t :: ts) Z := q
    refine ⟨_, l.ei, ρ, b.frn, sr.ho, sr.vr (bx_cold hx eT), ?_⟩
    cases e2 : p.ev G ρ with
    | no => rw [e2] at q; exact q
    | ex c fs => rw [e2] at q; exact fun H' d s x => q H' d s x
    | ok u =>
      rw [e2] at q
      have q : AgOut K cl b W ρ σ fp H (.itm i p :: as) (do
        let t ← (do
          let n ← ixD ts0.length u.d
          let d ← fzT ts0[n]?
          return T.fz d : R T)
        let ts ← Ag.evs G as ρ
        return t :: ts) Z := q
      intro v H2 f s fr o
      have sr2 := sr.grow s
      have r2 := o.seen sr.ho s fr
      cases e3 : ixD ts0.length u.d with
      | no => rw [e3] at q; exact q.elim
      | ex c fs => exact absurd e3 (ixD_nx _ _ _ _)
      | ok n =>
        rw [e3] at q
        have q : AgOut K cl b W ρ σ fp H (.itm i p :: as) (do
          let t ← (do
            let d ← fzT ts0[n]?
            return T.fz d : R T)
          let ts ← Ag.evs G as ρ
          return t :: ts) Z := q
        obtain ⟨c, e4, e5⟩ := ixD_ok e3
        rw [e4] at r2
        cases r2
        cases e6 : fzT ts0[n]? with
        | no => rw [e6] at q; exact q.elim
        | ex c fs => exact absurd e6 (fzT_nx _ _ _)
        | ok d =>
          rw [e6] at q
          have q : AgOut K cl b W ρ σ fp H (.itm i p :: as) (do
            let ts ← Ag.evs G as ρ
            return T.fz d :: ts) Z := q
          have e7 := fzT_ok e6
          obtain ⟨a2, vs2, g2, f2, l2⟩ := (New.none sr2).look e1
          have ea : a2 = a := by
            have := l.ei.symm.trans l2.ei
            cases this
            rfl
          subst ea
          obtain ⟨w, f3, f4, e8, ov, oo, ds, iff⟩ := l2.o.out e7
          cases ov with
          | fz hr =>
            refine ⟨_, vs2, c, w, rfl, rfl, SqL.of l2.ea, ?_, hx, b, eT, ρ, fp, sr2, ?_⟩
            · unfold atI
              rw [l2.o.length, e5]
              exact e8
            · have hr : Rep K (hide H2 (fp ++ b.frn)) d w := hr
              cases e9 : Ag.evs G as ρ with
              | no => rw [e9] at q; exact q
              | ex c fs => rw [e9] at q; exact fun H' d s2 x => q H' d (s.trans s2) x
              | ok ts =>
                rw [e9] at q
                exact fun vs H3 f s2 fr2 hd => q (w :: vs) H3 f (s.trans s2) (fun a ha => none_sub s (fr2 a ha)) (.itm (hr.sub (hide_more s2 fr2)) hd)
theorem ag_slot {i : Nat} {as : List Ag} {Z : List V → Hp → Prop} (h : tAg K G cl W (.slot i :: as) σ H Z) : tCons (tVar i) (tAg K G cl W as) σ H Z := by
  obtain ⟨hx, b, eT, ρ, fp, sr, q⟩ := h
  have q : AgOut K cl b W ρ σ fp H (.slot i :: as) (do
    let t ← slotT ρ i
    let ts ← Ag.evs G as ρ
    return t :: ts) Z := q
  cases e : slotT ρ i with
  | no => rw [e] at q; exact q.elim
  | ex c fs => exact absurd e (slotT_nx _ _ _ _)
  | ok t =>
    rw [e] at q
    have q : AgOut K cl b W ρ σ fp H (.slot i :: as) (do
      let ts ← Ag.evs G as ρ
      return t :: ts) Z := q
    have e1 := slotT_ok e
    obtain ⟨v, f1, f2, k1, _⟩ := sr.ow.take e1
    refine ⟨v, k1, hx, b, eT, ρ, fp, sr, ?_⟩
    cases e2 : Ag.evs G as ρ with
    | no => rw [e2] at q; exact q
    | ex c fs => rw [e2] at q; exact fun H' d s2 x => q H' d s2 x
    | ok ts =>
      rw [e2] at q
      exact fun vs H2 f s2 fr2 hd => q (v :: vs) H2 f s2 fr2 (.slot e1 k1 hd)
theorem ag_tmp {p : P} {as : List Ag} {Z : List V → Hp → Prop} (h : tAg K G cl W (.tmp p :: as) σ H Z) : tCons (tP K G cl W p) (tAg K G cl W as) σ H Z := by
  obtain ⟨hx, b, eT, ρ, fp, sr, q⟩ := h
  refine tP_ofA (m := .dr) sr (bx_cold hx eT) ?_
  have q : AgOut K cl b W ρ σ fp H (.tmp p :: as) (do
    let t ← p.ev G (drop ρ)
    let ts ← Ag.evs G as ρ
    return t :: ts) Z := q
  show match p.ev G (drop ρ) with
    | .ok t => ∀ v H' f, Ext H H' → (∀ a ∈ f, H a = none) → Own K H' (f ++ (fp ++ b.frn)) t v f → tAg K G cl W as σ H' fun vs H2 => Z (v :: vs) H2
    | .ex c fs => ∀ H' d, Ext H H' → ExR K cl H' b.frn c fs d → W (.ref (cl.ca c)) (some d) σ H'
    | .no => False
  cases e : p.ev G (drop ρ) with
  | no => rw [e] at q; exact q
  | ex c fs => rw [e] at q; exact fun H' d s x => q H' d s x
  | ok t =>
    rw [e] at q
    have q : AgOut K cl b W ρ σ fp H (.tmp p :: as) (do
      let ts ← Ag.evs G as ρ
      return t :: ts) Z := q
    intro v H1 f1 s fr o
    have n := New.fresh sr s fr o
    have perm : ∀ {x y z : List Addr} {a : Addr}, a ∈ x ++ (y ++ z) ↔ a ∈ y ++ (x ++ z) := fun {x y z a} => by
      simp only [List.mem_append]
      constructor
      · rintro (h | h | h)
        · exact .inr (.inl h)
        · exact .inl h
        · exact .inr (.inr h)
      · rintro (h | h | h)
        · exact .inr (.inl h)
        · exact .inl h
        · exact .inr (.inr h)
    have sr1 : SRf K { b with frn := f1 ++ b.frn } ρ σ H1 fp :=
      ⟨n.sr.kp, n.sr.nk, fun a ha z => (List.mem_append.mp z).elim (fun w => n.np a w ha) (n.sr.nf a ha), o.lists.app n.sr.ho, n.os.keep (keep_less fun a ha => perm.mp ha), n.sr.io, n.sr.ln, n.sr.tb⟩
    refine ⟨hx, { b with frn := f1 ++ b.frn }, eT, ρ, fp, sr1, ?_⟩
    cases e2 : Ag.evs G as ρ with
    | no => rw [e2] at q; exact q
    | ex c fs => rw [e2] at q; exact fun H' d s2 x => q H' d (s.trans s2) (x.less fun a ha => List.mem_append_right _ ha)
    | ok ts =>
      rw [e2] at q
      intro vs H2 f s2 fr2 hd
      have hd : Hd K H2 (f ++ (fp ++ (f1 ++ b.frn))) ρ σ as ts vs f := hd
      have dom : ∀ a ∈ f1, H1 a ≠ none := fun a ha z => by
        obtain ⟨u, e, _⟩ := o.lists a ha
        rw [z] at e
        cases e
      refine q (v :: vs) H2 (f1 ++ f) (s.trans s2) (fun a ha => (List.mem_append.mp ha).elim (fr a) fun z => none_sub s (fr2 a z)) (.tmp (o.keep ⟨?_, fun a _ u e => s2 a u e, fun a xs e => s2 a _ e⟩) (hd.keep (keep_less fun a ha => ?_)) fun a ha z => dom a ha (fr2 a z))
      · refine hide_mono fun a u nn e => ⟨s2 a u e, fun z => ?_⟩
        rcases List.mem_append.mp z with z | z
        · rcases List.mem_append.mp z with z | z
          · exact nn (List.mem_append_left _ z)
          · rw [fr2 a z] at e; cases e
        · exact nn (List.mem_append_right _ z)
      · simp only [List.mem_append] at ha ⊢
        rcases ha with (h | h) | h | h
        · exact .inr (.inr (.inl h))
        · exact .inl h
        · exact .inr (.inl h)
        · exact .inr (.inr (.inr h))
theorem ag_nil {Z : List V → Hp → Prop} (h : tAg K G cl W [] σ H Z) : tNil σ H Z := by
  obtain ⟨hx, b, eT, ρ, fp, sr, q⟩ := h
  exact (show ∀ vs H' f, Ext H H' → (∀ a ∈ f, H a = none) → Hd K H' (f ++ (fp ++ b.frn)) ρ σ [] [] vs f → Z vs H' from q) [] H [] (Ext.refl H) (fun _ z => nomatch z) .nil
/-! the call -/
def CcOut (K : PySem.W.Frag) (cl : Cl) (b : Bs) (W : WX) (σ : St) (r : RS T) (Q : VK) : Prop := match r with
  | .ok t ρ => ∀ v H f fp, New K b ρ σ H fp t v f → Q v H
  | .ex c fs ρ => ∀ H d, SR K b ρ σ H → ExR K cl H b.frn c fs d → W (.ref (cl.ca c)) (some d) σ H
  | .no => False
def tCc (K : PySem.W.Frag) (G : Gam) (cl : Cl) (W : WX) (c : Cc) : TE := fun σ H Q => G.hx = none ∧ ∃ b, b.T = cl.T ∧ ∃ ρ fp, SRf K b ρ σ H fp ∧ CcOut K cl b W σ (c.ev G ρ) Q
theorem cc_post {k n : Nat} {io : List Nat} {as : List Ag} {Q : VK} (len : ∀ ts, G.fn k ts ≠ .no → ts.length = n) (nd : (Ag.slots as).Nodup) (h : tCc K G cl W (.call k io as) σ H Q) :
    tAg K G cl W as σ H fun vs H1 => spT K cl n io (G.fn k) vs H1 Q (WE W σ) := by
  obtain ⟨hx, b, eT, ρ, fp, sr, q⟩ := h
  refine ⟨hx, b, eT, ρ, fp, sr, ?_⟩
  have q : CcOut K cl b W σ (match Ag.evs G as ρ with
    | .ok ts => callS G k io as ρ ts
    | .ex c fs => .ex c fs ρ
    | .no => .no) Q := q
  cases e : Ag.evs G as ρ with
  | no => rw [e] at q; exact q
  | ex c fs => rw [e] at q; exact fun H' d s x => q H' d ⟨fp, sr.grow s⟩ x
  | ok ts =>
    rw [e] at q
    have q : CcOut K cl b W σ (callS G k io as ρ ts) Q := q
    intro vs H1 f s fr hd
    have sr1 := sr.grow s
    have nkf : ∀ a ∈ f, b.kept a = none := fun a ha => kept_none sr.kp (fr a ha)
    have npf : ∀ a ∈ f, a ∉ fp := fun a ha z => sr.ow.lists.fresh (fr a ha) z
    have nff : ∀ a ∈ f, a ∉ b.frn := fun a ha z => sr.ho.fresh (fr a ha) z
    have os1 : OwnS K H1 (f ++ (fp ++ b.frn)) ρ σ fp := sr.ow.keep ⟨hide_more s fr, fun a _ u e => s a u e, fun a _ e => s a _ e⟩
    obtain ⟨fc, g, o1, o2, dj, iff⟩ := hd.gather os1 (fun _ _ => rfl) nd npf
    have nkA : ∀ a, a ∈ fc ∨ a ∈ g → b.kept a = none ∧ a ∉ b.frn := fun a ha => by
      rcases (iff a).mp ha with z | z
      · exact ⟨nkf a z, nff a z⟩
      · exact ⟨sr.nk a z, sr.nf a z⟩
    have hset : ∀ a, a ∈ fc ++ (g ++ b.frn) ↔ a ∈ f ++ (fp ++ b.frn) := fun a => by
      have := iff a
      simp only [List.mem_append]
      constructor
      · rintro (z | z | z)
        · exact (this.mp (.inl z)).imp id .inl
        · exact (this.mp (.inr z)).imp id .inl
        · exact .inr (.inr z)
      · rintro (z | z | z)
        · exact (this.mpr (.inl z)).imp id .inl
        · exact (this.mpr (.inr z)).imp id .inl
        · exact .inr (.inr z)
    unfold callS at q
    by_cases iob : ioB io 0 ts = true
    case neg => rw [if_neg iob] at q; exact q.elim
    rw [if_pos iob] at q
    have hne : G.fn k ts ≠ .no := fun z => by rw [z] at q; exact q
    refine ⟨by rw [o1.length]; exact len ts hne, sr1.tb, ts, fc, g ++ b.frn, o2.lists.app sr1.ho, fun a ha z => ?_, o1.keep (keep_less fun a ha => (hset a).mp ha), iob, ?_⟩
    · rcases List.mem_append.mp z with z | z
      · exact dj a ha z
      · exact (nkA a (.inl ha)).2 z
    cases em : G.fn k ts with
    | no => exact absurd em hne
    | ex c fs =>
      rw [em] at q
      intro H' d kp x
      refine q H' d ⟨g, ?_⟩ (x.less fun a ha => List.mem_append_right _ ha)
      refine ⟨⟨fun a o e => (sr1.kp a o e).map2 fun u e2 => kp a u e2 fun z => ?_, fun t => kp.tab (sr1.kp.tab t)⟩, fun a ha => (nkA a (.inr ha)).1, fun a ha => (nkA a (.inr ha)).2, fun a ha => ?_, o2.keep ⟨hide_mono fun a u nn e => ⟨kp a u e fun z => nn ((hset a).mp (List.mem_append_left _ z)), fun z => nn ((hset a).mp (List.mem_append_right _ z))⟩, fun a ha u e => kp a u e fun z => dj a z ha, fun a xs e => kp a _ e fun z => o1.lists.notup e z⟩, sr1.io, sr1.ln, kp.tab sr1.tb⟩
      · rw [(nkA a (.inl z)).1] at e; cases e
      · obtain ⟨u, e, m⟩ := sr1.ho a ha
        exact ⟨u, KeepO.mut (kp a u e fun z => (nkA a (.inl z)).2 ha) m, m⟩
    | ok r =>
      obtain ⟨t, outs⟩ := r
      rw [em] at q
      have q : CcOut K cl b W σ (match Ag.put as io outs (Ag.blank as ρ) with
        | .ok ρ' => .ok t ρ'
        | _ => .no) Q := q
      cases ep : Ag.put as io outs (Ag.blank as ρ) with
      | no => rw [ep] at q; exact q.elim
      | ex _ _ => rw [ep] at q; exact q.elim
      | ok ρ' =>
        rw [ep] at q
        intro v H' fn fo kp k2 k3 k4 k5
        have nsc : ∀ a, H1 a = none ∨ a ∈ fc → a ∉ g ∧ b.kept a = none ∧ a ∉ b.frn := fun a ha => by
          rcases ha with z | z
          · exact ⟨fun w => o2.lists.fresh z w, kept_none sr1.kp z, fun w => sr1.ho.fresh z w⟩
          · exact ⟨dj a z, (nkA a (.inl z)).1, (nkA a (.inl z)).2⟩
        have o3 : OwnS K H' (fn ++ fo ++ (g ++ b.frn)) (Ag.blank as ρ) σ g := o2.keep ⟨hide_mono fun a u nn e => ⟨kp a u e fun z => nn ((hset a).mp (List.mem_append_left _ z)), fun z => by
            rcases List.mem_append.mp z with z | z
            · rcases k2 a z with w | w
              · rw [w] at e; cases e
              · exact nn ((hset a).mp (List.mem_append_left _ w))
            · exact nn ((hset a).mp (List.mem_append_right _ z))⟩, fun a ha u e => kp a u e fun z => dj a z ha, fun a xs e => kp a _ e fun z => o1.lists.notup e z⟩
        obtain ⟨fq, p1, p2⟩ := put_own k5 o3 (fun a ha => (nsc a (k2 a (List.mem_append_right _ ha))).1) ep (fun i j => hd.at_) hd.length
        have less : ∀ a, a ∈ fn ++ (fq ++ b.frn) → a ∈ fn ++ fo ++ (g ++ b.frn) := fun a ha => by
          simp only [List.mem_append] at ha ⊢
          rcases ha with z | z | z
          · exact .inl (.inl z)
          · exact (p2 a z).elim (fun w => .inl (.inr w)) fun w => .inr (.inl w)
          · exact .inr (.inr z)
        have fqA : ∀ a ∈ fq, b.kept a = none ∧ a ∉ b.frn := fun a ha => by
          rcases p2 a ha with z | z
          · exact (nsc a (k2 a (List.mem_append_right _ z))).2
          · exact nkA a (.inr z)
        refine q v H' fn fq ⟨⟨⟨fun a o e => (sr1.kp a o e).map2 fun u e2 => kp a u e2 fun z => ?_, fun t => kp.tab (sr1.kp.tab t)⟩, fun a ha => (fqA a ha).1, fun a ha => (fqA a ha).2, fun a ha => ?_, p1.keep (keep_less fun a ha => less a (List.mem_append_right _ ha)), sr1.io, sr1.ln, kp.tab sr1.tb⟩,
          fun a ha => (nsc a (k2 a (List.mem_append_left _ ha))).2.1, fun a ha z => ?_, fun a ha => (nsc a (k2 a (List.mem_append_left _ ha))).2.2, k4.keep (keep_less less), p1.keep (keep_less less)⟩
        · rw [(nkA a (.inl z)).1] at e; cases e
        · obtain ⟨u, e, m⟩ := sr1.ho a ha
          exact ⟨u, KeepO.mut (kp a u e fun z => (nkA a (.inl z)).2 ha) m, m⟩
        · rcases p2 a z with w | w
          · exact k3 a ha w
          · exact (nsc a (k2 a (List.mem_append_left _ ha))).1 w
end
end Gn

set_option Elab.async false
set_option linter.all false
set_option maxRecDepth 100000
set_option maxHeartbeats 4000000
namespace Gn
open PySem PySem.Spec PyProof.Rows L2
variable [Tbls]

def Ag.chk (Y : Sy) (sc : Scope) : Ag → Expr → Bool
  | .val p _, e => plainE e && p.chk Y.x sc e
  | .slot i, .Name x _ => rd Y sc i x
  | .tmp p, e => plainE e && p.chk Y.x sc e
  | .itm i p, .Subscript (.Name x _) e _ => rd Y sc i x && (plainE e && p.chk Y.x sc e)
  | _, _ => false
def Ag.chks (Y : Sy) (sc : Scope) : List Ag → List Expr → Bool
  | [], [] => true
  | a :: as, e :: es => Ag.chk Y sc a e && Ag.chks Y sc as es
  | _, _ => false
def Cc.chk (Y : Sy) (sc : Scope) : Cc → Expr → Bool
  | .call k io as, .Call (.Name x _) es [] _ => decide (Y.x.fnn[k]? = some x) && (decide (Y.x.fio[k]? = some io) && (glB sc x && (okName x && (!es.isEmpty && (decide (Ag.slots as).Nodup && Ag.chks Y sc as es)))))
  | .len c, .Call (.Name x _) [e] [] _ => decide (x = ("len" : Str)) && (glB sc ("len" : Str) && (Y.x.bt.contains ("len" : Str) && (plainE e && Cc.chk Y sc c e)))
  | _, _ => false
def Ct.chk (Y : Sy) (sc : Scope) : Ct → Expr → Bool
  | .tru c, e => ownT e && Cc.chk Y sc c e
  | .ntru c, .UnaryOp .Not e _ => ownT e && Cc.chk Y sc c e
  | .cmp o c q, .Compare a [op] [e] _ => decide (op = o.op) && (plainE e && (Cc.chk Y sc c a && q.chk Y.x sc e))
  | .orr p t, .BoolOp .Or [a, e] _ => p.chk Y.x sc a && Ct.chk Y sc t e
  | _, _ => false
section
variable {Y : Sy} {G : Gam} {cl : Cl} {sc : Scope} {X : Cx} {W : WX}
theorem ag_plain {a : Ag} {e : Expr} (h : Ag.chk Y sc a e = true) : plainE e = true := by
  cases a with
  | val p m => exact (b2 (show (plainE e && p.chk Y.x sc e) = true from h)).1
  | tmp p => exact (b2 (show (plainE e && p.chk Y.x sc e) = true from h)).1
  | slot i => cases e <;> first | rfl | exact cfalse h
  | itm i p => cases e <;> first | rfl | exact cfalse h
theorem ags_plain : ∀ {as : List Ag} {es : List Expr}, Ag.chks Y sc as es = true → ∀ e ∈ es, plainE e = true
  | [], [], _, e, he => nomatch he
  | [], _ :: _, h, _, _ => cfalse h
  | _ :: _, [], h, _, _ => cfalse h
  | a :: as, e :: es, h, x, hx => by
    obtain ⟨h1, h2⟩ := b2 (show (Ag.chk Y sc a e && Ag.chks Y sc as es) = true from h)
    rcases List.mem_cons.mp hx with z | z
    · rw [z]; exact ag_plain h1
    · exact ags_plain h2 x z
theorem snd_ags (g : SX Y G cl sc X W) : ∀ {as : List Ag} {es : List Expr}, Ag.chks Y sc as es = true → PA X es (tAg X.K G cl W as)
  | [], [], _ => PA.mono pa_nil fun σ H Q h => ag_nil h
  | [], _ :: _, h => cfalse h
  | _ :: _, [], h => cfalse h
  | a :: as, e :: es, h => by
    obtain ⟨h1, h2⟩ := b2 (show (Ag.chk Y sc a e && Ag.chks Y sc as es) = true from h)
    have hp := ag_plain h1
    have ih := snd_ags g h2
    cases a with
    | val p m =>
      obtain ⟨_, h3⟩ := b2 (show (plainE e && p.chk Y.x sc e) = true from h1)
      exact PA.mono (pa_cons ((P.sd p).pe g.toGX h3) ih (star_of hp es _)) fun σ H Q h => ag_val h
    | tmp p =>
      obtain ⟨_, h3⟩ := b2 (show (plainE e && p.chk Y.x sc e) = true from h1)
      exact PA.mono (pa_cons ((P.sd p).pe g.toGX h3) ih (star_of hp es _)) fun σ H Q h => ag_tmp h
    | itm i p =>
      cases e with
      | Subscript o e' pos =>
        cases o with
        | Name x px =>
          obtain ⟨r1, h3⟩ := b2 (show (rd Y sc i x && (plainE e' && p.chk Y.x sc e')) = true from h1)
          obtain ⟨r2, r3⟩ := b2 h3
          exact PA.mono (pa_cons (pe_ix ix_list (rd_of g r1) ((P.sd p).pe g.toGX r3) (plainIx r2)) ih (star_of rfl es _)) fun σ H Q h => ag_itm h
        | _ => exact cfalse h1
      | _ => exact cfalse h1
    | slot i =>
      cases e with
      | Name x pos => exact PA.mono (pa_cons (rd_of g (show rd Y sc i x = true from h1)) ih (star_of rfl es _)) fun σ H Q h => ag_slot h
      | _ => exact cfalse h1
theorem cc_len {b : Bs} {σ : St} {c : Cc} {ρ : Rho} {Q : VK} (q : CcOut X.K cl b W σ ((Cc.len c).ev G ρ) Q) : CcOut X.K cl b W σ (c.ev G ρ) fun x H1 => rBI X.K G.calm .len [x] H1 Q := by
  have q : CcOut X.K cl b W σ ((c.ev G ρ).andThen fun t ρ' => (biD G.calm .len [t.d]).st ρ') Q := q
  cases e : c.ev G ρ with
  | no => rw [e] at q; exact q
  | ex k fs ρ' => rw [e] at q; exact q
  | ok t ρ' =>
    rw [e] at q
    have q : CcOut X.K cl b W σ ((biD G.calm .len [t.d]).st ρ') Q := q
    intro v H f fp n
    cases n.frz.ow with
    | fz r =>
      refine ⟨fp ++ b.frn, [t.d], n.sr.hidok, .cons r .nil, ?_⟩
      cases e2 : biD G.calm .len [t.d] with
      | no => rw [e2] at q; exact q
      | ex k fs => exact absurd e2 (nx_biD _ _ _ _ _)
      | ok u =>
        rw [e2] at q
        exact fun v2 H2 f2 s fr o => q v2 H2 f2 fp (New.fresh n.sr s fr o)
theorem snd_cc (g : SX Y G cl sc X W) (hh : Y.x.hot = false) : ∀ {c : Cc} {e : Expr}, Cc.chk Y sc c e = true → PE X e (tCc X.K G cl W c)
  | .call k io as, e, h => by
    cases e with
    | Call f es kws pos =>
      cases f with
      | Name x p =>
        cases kws with
        | cons _ _ => exact cfalse h
        | nil =>
          obtain ⟨h1, h⟩ := b2 (show (decide (Y.x.fnn[k]? = some x) && (decide (Y.x.fio[k]? = some io) && (glB sc x && (okName x && (!es.isEmpty && (decide (Ag.slots as).Nodup && Ag.chks Y sc as es)))))) = true from h)
          obtain ⟨h2, h⟩ := b2 h
          obtain ⟨h3, h⟩ := b2 h
          obtain ⟨h4, h⟩ := b2 h
          obtain ⟨h5, h⟩ := b2 h
          obtain ⟨h6, h7⟩ := b2 h
          obtain ⟨f, fd, qs, n, hm, hk, F, hr, hb, len⟩ := g.fn hh k x io (of_decide_eq_true h1) (of_decide_eq_true h2)
          cases es with
          | nil => cases h5
          | cons e es =>
            have hp := ags_plain h7
            exact PE.mono (pe_callS (E := WE W) F hr (gl_of g.sc h3) hm hk hb (fun σ => passAt g.tk σ) (snd_ags g h7) (okN h4).1 (star_of (hp e (by simp)) es _) (star_none fun e he => hp e (by simp [he]))) fun σ H Q h => cc_post len (of_decide_eq_true h6) h
      | _ => exact cfalse h
    | _ => exact cfalse h
  | .len c, e, h => by
    cases e with
    | Call f es kws pos =>
      cases f with
      | Name x p =>
        match es, kws, h with
        | [e], [], h =>
          obtain ⟨h1, h⟩ := b2 (show (decide (x = ("len" : Str)) && (glB sc ("len" : Str) && (Y.x.bt.contains ("len" : Str) && (plainE e && Cc.chk Y sc c e)))) = true from h)
          obtain ⟨h2, h⟩ := b2 h
          obtain ⟨h3, h⟩ := b2 h
          obtain ⟨h4, h5⟩ := b2 h
          have e1 := of_decide_eq_true h1
          subst e1
          have hc : G.calm = true → X.calm = true := fun z => g.calm (g.cm z)
          have run : CallR X (.builtin "len") (rBI X.K G.calm .len) := fun pins s σ H vs us Q I r h => cr_bi (by have := g.hu; omega) (calm := G.calm) hc .len I r h
          exact PE.mono (pe_callB run (gl_of g.sc h2) (g.bt _ (mem_of h3)) (BI.boot .len) (pa_cons (snd_cc g hh h5) pa_nil (star_of h4 [] _)) (by decide +kernel) (by decide +kernel) (star_of h4 [] _) (star_none (es := []) fun _ z => nomatch z))
            fun σ H Q ⟨hx, b, eT, ρ, fp, sr, q⟩ => ⟨hx, b, eT, ρ, fp, sr, cc_len q⟩
        | [], _, h => exact cfalse h
        | _ :: _ :: _, _, h => exact cfalse h
        | [_], _ :: _, h => exact cfalse h
      | _ => exact cfalse h
    | _ => exact cfalse h
/-! tests -/
def CtOut (K : PySem.W.Frag) (cl : Cl) (b : Bs) (W : WX) (σ : St) (r : RS Bool) (Q : Bool → Hp → Prop) : Prop := match r with
  | .ok z ρ => ∀ H fp, SRf K b ρ σ H fp → Q z H
  | .ex c fs ρ => ∀ H d, SR K b ρ σ H → ExR K cl H b.frn c fs d → W (.ref (cl.ca c)) (some d) σ H
  | .no => False
def tCt (K : PySem.W.Frag) (G : Gam) (cl : Cl) (W : WX) (t : Ct) : TT := fun σ H Q => G.hx = none ∧ ∃ b, b.T = cl.T ∧ ∃ ρ fp, SRf K b ρ σ H fp ∧ CtOut K cl b W σ (t.ev G ρ) Q
theorem ct_tru {b : Bs} {σ : St} {c : Cc} {ρ : Rho} {Q : Bool → Hp → Prop} (q : CtOut X.K cl b W σ ((c.ev G ρ).andThen fun t ρ' => (truD t.d).st ρ') Q) : CcOut X.K cl b W σ (c.ev G ρ) fun x H1 => ∃ k, TruV X.K x H1 k ∧ Q k H1 := by
  cases e : c.ev G ρ with
  | no => rw [e] at q; exact q
  | ex k fs ρ' => rw [e] at q; exact q
  | ok t ρ' =>
    rw [e] at q
    have q : CtOut X.K cl b W σ ((truD t.d).st ρ') Q := q
    intro v H f fp n
    cases n.frz.ow with
    | fz r =>
      cases e2 : truD t.d with
      | no => rw [e2] at q; exact q.elim
      | ex k fs => exact absurd e2 (nx_truD _ _ _)
      | ok z =>
        rw [e2] at q
        exact ⟨z, truV_of (r.sub (hide_sub _ _)) e2, q H fp n.sr⟩
theorem ct_cmp {b : Bs} {σ : St} {o : CmpO} {c : Cc} {p : P} {ρ : Rho} {Q : Bool → Hp → Prop} (hx : G.hx = none) (eT : b.T = cl.T) (q : CtOut X.K cl b W σ ((c.ev G ρ).andThen fun t ρ' => (do cmpD o t.d (← p.ev G ρ').d : R Bool).st ρ') Q) :
    CcOut X.K cl b W σ (c.ev G ρ) fun x H1 => tP X.K G cl W p σ H1 fun y H2 => ∃ hid d e, Rep X.K (hide H2 hid) d x ∧ Rep X.K (hide H2 hid) e y ∧ BOut H2 (cmpD o d e) fun x H' => ∃ c, x = .bl c ∧ Q c H' := by
  cases e : c.ev G ρ with
  | no => rw [e] at q; exact q
  | ex k fs ρ' => rw [e] at q; exact q
  | ok t ρ' =>
    rw [e] at q
    have q : CtOut X.K cl b W σ ((do cmpD o t.d (← p.ev G ρ').d : R Bool).st ρ') Q := q
    intro v H f fp n
    cases n.frz.ow with
    | fz r =>
      refine tP_rd n.sr (bx_cold hx eT) ?_
      cases e2 : p.ev G ρ' with
      | no => rw [e2] at q; exact q
      | ex k fs => rw [e2] at q; exact fun H d sr x => q H d sr x
      | ok u =>
        rw [e2] at q
        have q : CtOut X.K cl b W σ ((cmpD o t.d u.d).st ρ') Q := q
        intro y H2 sr2 s2 r2
        have r1 : Rep X.K (hide H2 b.frn) t.d v := (r.sub (hide_less fun a ha => List.mem_append_right _ (List.mem_append_right _ ha))).sub (hide_grow n.sr.ho s2)
        refine ⟨b.frn, t.d, u.d, r1, r2, ?_⟩
        cases e3 : cmpD o t.d u.d with
        | no => rw [e3] at q; exact q.elim
        | ex k fs => exact absurd e3 (nx_cmpD _ _ _ _ _)
        | ok z =>
          rw [e3] at q
          exact ⟨z, rfl, q H2 fp sr2⟩
theorem snd_ct (g : SX Y G cl sc X W) (hh : Y.x.hot = false) : ∀ {t : Ct} {e : Expr}, Ct.chk Y sc t e = true → PT X e (tCt X.K G cl W t)
  | .tru c, e, h => by
    obtain ⟨h1, h2⟩ := b2 (show (ownT e && Cc.chk Y sc c e) = true from h)
    exact PT.mono (pt_truth (snd_cc g hh h2) fun whole => ownT_of h1 _ _) fun σ H Q ⟨hx, b, eT, ρ, fp, sr, q⟩ => ⟨hx, b, eT, ρ, fp, sr, ct_tru q⟩
  | .ntru c, e, h => by
    cases e with
    | UnaryOp op e pos =>
      cases op with
      | Not =>
        obtain ⟨h1, h2⟩ := b2 (show (ownT e && Cc.chk Y sc c e) = true from h)
        refine PT.mono (pt_not (pt_truth (snd_cc g hh h2) fun whole => ownT_of h1 _ _)) fun σ H Q ⟨hx, b, eT, ρ, fp, sr, q⟩ => ⟨hx, b, eT, ρ, fp, sr, ct_tru (Q := fun z H1 => Q (!z) H1) ?_⟩
        have q : CtOut X.K cl b W σ ((c.ev G ρ).andThen fun t ρ' => (do return !(← truD t.d) : R Bool).st ρ') Q := q
        cases e : c.ev G ρ with
        | no => rw [e] at q; exact q
        | ex k fs ρ' => rw [e] at q; exact q
        | ok t ρ' =>
          rw [e] at q
          have q : CtOut X.K cl b W σ ((do return !(← truD t.d) : R Bool).st ρ') Q := q
          show CtOut X.K cl b W σ ((truD t.d).st ρ') _
          cases e2 : truD t.d with
          | no => rw [e2] at q; exact q
          | ex k fs => rw [e2] at q; exact q
          | ok z => rw [e2] at q; exact q
      | _ => exact cfalse h
    | _ => exact cfalse h
  | .cmp o c p, e, h => by
    cases e with
    | Compare a ops es pos =>
      match ops, es, h with
      | [op], [e], h =>
        obtain ⟨h1, h⟩ := b2 (show (decide (op = o.op) && (plainE e && (Cc.chk Y sc c a && p.chk Y.x sc e))) = true from h)
        obtain ⟨h2, h⟩ := b2 h
        obtain ⟨h3, h4⟩ := b2 h
        have e1 := of_decide_eq_true h1
        subst e1
        exact PT.mono (pt_cmpR (op_cmpO (by have := g.hu; omega) o) (snd_cc g hh h3) ((P.sd p).pe g.toGX h4) (plainBehind h2 _)) fun σ H Q ⟨hx, b, eT, ρ, fp, sr, q⟩ => ⟨hx, b, eT, ρ, fp, sr, ct_cmp hx eT q⟩
      | [], _, h => exact cfalse h
      | _ :: _ :: _, _, h => exact cfalse h
      | [_], [], h => exact cfalse h
      | [_], _ :: _ :: _, h => exact cfalse h
    | _ => exact cfalse h
  | .orr p t, e, h => by
    cases e with
    | BoolOp op es pos =>
      cases op with
      | Or =>
        match es, h with
        | [a, e], h =>
          obtain ⟨h1, h2⟩ := b2 (show (p.chk Y.x sc a && Ct.chk Y sc t e) = true from h)
          refine (PW.mono (pw_or ((P.sd p).pt g.toGX h1) (pw_or1 (snd_ct g hh h2))) fun σ H Q ⟨hx, b, eT, ρ, fp, sr, q⟩ => ?_).pt
          have q : CtOut X.K cl b W σ (((p.tst G ρ).st ρ).andThen fun b ρ' => if b then .ok true ρ' else t.ev G ρ') Q := q
          refine ⟨ρ, b.frn, sr.ho, sr.vr (bx_cold hx eT), ?_⟩
          cases e : p.tst G ρ with
          | no => rw [e] at q; exact q
          | ex k fs => rw [e] at q; exact fun H' d s x => q H' d ⟨fp, sr.grow s⟩ x
          | ok z =>
            rw [e] at q
            intro H' s
            cases z with
            | true => exact (show ∀ H fp, SRf X.K b ρ σ H fp → Q true H from q) H' fp (sr.grow s)
            | false => exact ⟨hx, b, eT, ρ, fp, sr.grow s, q⟩
        | [], h => exact cfalse h
        | [_], h => exact cfalse h
        | _ :: _ :: _ :: _, h => exact cfalse h
      | _ => exact cfalse h
    | _ => exact cfalse h
/-! statements -/
theorem st_itec {t : Ct} {a d : List S} {e : Expr} {ps qs : List Stmt} {pos : Pos} (g : SX Y G cl sc X W) (hh : Y.x.hot = false) (hp : Ct.chk Y sc t e = true) (ha : PSs X ps (tSs X.K Y G cl W a)) (hb : PSs X qs (tSs X.K Y G cl W d)) : PS X (.If e ps qs pos) (tS X.K Y G cl W (.itec t a d)) := by
  refine PS.mono (ps_if (snd_ct g hh hp) ha hb) fun E σ H h => at_tR h fun b ρ fp ei en sr q => ?_
  have q : SOut X.K cl b W E ((t.ev G ρ).bindR fun z ρ' => if z then S.runs G a ρ' else S.runs G d ρ') := q
  refine ⟨g.cold hh, b, en.x.eT, ρ, fp, sr, ?_⟩
  cases e : t.ev G ρ with
  | no => rw [e] at q; exact q
  | ex k fs ρ' => rw [e] at q; exact fun H d sr x => q σ H d sr x
  | ok z ρ' =>
    rw [e] at q
    intro H' fp' sr'
    cases z with
    | true => exact ⟨b, ρ', ei, en, ⟨fp', sr'⟩, q⟩
    | false => exact ⟨b, ρ', ei, en, ⟨fp', sr'⟩, q⟩
theorem idx_int {d e : D} {r : T} (h : idxD d e = .ok r) : ∃ i, e = .int i := by
  cases e <;> first | exact ⟨_, rfl⟩ | (cases d <;> cases h)
theorem st_forx {tg : Tg} {p q : P} {body : List S} {t a a2 : Expr} {sts : List Stmt} {sp pos : Pos} (g : SX Y G cl sc X W) (hh : Y.x.hot = false) (ht : tgB Y sc tg t = true) (pl : plainE a2 = true) (hp : p.chk Y.x sc a = true) (hq : q.chk Y.x sc a2 = true) (hb : PSs X sts (tSs X.K Y G cl W body)) :
    PS X (.For t (.Subscript a a2 sp) sts [] pos) (tS X.K Y G cl W (.forx tg p q body)) := by
  obtain ⟨pg, w⟩ := tg_of g hh ht
  have pi := pi_list (tg := t) (pe_ix ix_idx ((P.sd p).pe g.toGX hp) ((P.sd q).pe g.toGX hq) (pos := sp) (plainIx pl))
  refine PS.mono (ps_for g.po (g.calm hh) pi pg hb (fun _ => rfl)) fun E σ H h => at_tR h fun b ρ fp ei en sr q' => ?_
  have q0 : SOut X.K cl b W E ((itemsX G p q ρ).bindR ρ fun ds => forL (fun d ρ => (tg.set d ρ).bindR ρ fun ρ' => S.runs G body ρ') ds ρ) := q'
  generalize hff : (fun d ρ => (tg.set d ρ).bindR ρ fun ρ' => S.runs G body ρ') = ff at q0
  have hx := g.cold hh
  have eT := en.x.eT
  refine tP_ofA (m := .dr) sr (bx_cold hx eT) ?_
  unfold itemsX at q0
  show match p.ev G (drop ρ) with
    | .ok t => ∀ v H' f, Ext H H' → (∀ a ∈ f, H a = none) → Own X.K H' (f ++ (fp ++ b.frn)) t v f → _
    | .ex c fs => ∀ H' d, Ext H H' → ExR X.K cl H' b.frn c fs d → W (.ref (cl.ca c)) (some d) σ H'
    | .no => False
  cases e1 : p.ev G (drop ρ) with
  | no => rw [e1] at q0; exact q0
  | ex c fs => rw [e1] at q0; exact fun H' d s x => q0 σ H' d ⟨fp, sr.grow s⟩ x
  | ok tv =>
    rw [e1] at q0
    intro x H1 f1 s1 fr1 o1
    have sr1 := sr.grow s1
    have r1 : Rep X.K (hide H1 (fp ++ b.frn)) tv.d x := o1.rep (fun a ha => List.mem_append_right _ ha) (sr.hidok.grow s1) fun a ha z => sr.hidok.fresh (fr1 a ha) z
    refine tP_rd sr1 (bx_cold hx eT) ?_
    have q0 : SOut X.K cl b W E ((do
      let u ← q.ev G ρ
      let r ← idxD tv.d u.d
      listD r.d : R (List D)).bindR ρ fun ds => forL ff ds ρ) := q0
    cases e2 : q.ev G ρ with
    | no => rw [e2] at q0; exact q0
    | ex c fs => rw [e2] at q0; exact fun H d sr x => q0 σ H d sr x
    | ok uv =>
      rw [e2] at q0
      have q0 : SOut X.K cl b W E ((do
        let r ← idxD tv.d uv.d
        listD r.d : R (List D)).bindR ρ fun ds => forL ff ds ρ) := q0
      intro y H2 sr2 s2 r2
      have r1 := r1.sub (hide_grow (sr.hidok.grow s1) s2)
      -- the index is an int
      cases e3 : idxD tv.d uv.d with
      | no => rw [e3] at q0; exact q0.elim
      | ex c fs => exact absurd e3 (nx_idxD _ _ _ _)
      | ok rv =>
        rw [e3] at q0
        have q0 : SOut X.K cl b W E ((listD rv.d).bindR ρ fun ds => forL ff ds ρ) := q0
        have ri : Rep X.K (hide H2 (fp ++ b.frn)) uv.d y := by
          obtain ⟨i, eu⟩ := idx_int e3
          rw [eu] at r2 ⊢
          cases r2
          exact .int i
        refine ⟨fp ++ b.frn, tv.d, uv.d, sr2.hidok, r1, ri, ?_⟩
        rw [e3]
        intro v H3 f3 s3 fr3 o3
        have r3 : Rep X.K (hide H3 (fp ++ b.frn)) rv.d v := o3.rep (fun a ha => List.mem_append_right _ ha) (sr2.hidok.grow s3) fun a ha z => sr2.hidok.fresh (fr3 a ha) z
        have sr3 := sr2.grow s3
        cases ed : rv.d with
        | list ds =>
          rw [ed] at q0 r3
          cases r3 with
          | lst hs rr =>
            refine ⟨_, rfl, ⟨_, sqL_sub (hide_sub _ _) hs⟩, ?_⟩
            have hJ := itD_list hs rr
            have q0 : SOut X.K cl b W E (forL ff ds ρ) := q0
            clear sr sr1 sr2 r1 r2 ri o1 o3
            obtain ⟨up, inn⟩ := sr3.inner
            have kpB : ∀ {H : Hp} {ρ : Rho} {σ : St}, SR X.K { b with kept := hide H3 fp } ρ σ H → Sub (hide H3 (fp ++ b.frn)) H := fun {H ρ σ} ⟨fp, sr⟩ a o e => sr.kp a o (inner_vis a o e).1
            refine ⟨fun i m σ H => m = ds.length - i ∧ i ≤ ds.length ∧ ∃ ρ, SR X.K { b with kept := hide H3 fp } ρ σ H ∧ SOut X.K cl b W E (forL ff (ds.drop i) ρ), ⟨ds.length, by simp, Nat.zero_le _, ρ, ⟨fp, inn⟩, by simpa using q0⟩, ?_⟩
            rintro i m σ H ⟨rfl, hi, ρ, sr, q⟩
            by_cases hlt : i < ds.length
            · obtain ⟨go, yl⟩ := hJ.go i H ds[i] (kpB sr) (by simp [hlt])
              refine .inr ⟨go, fun σ' H' => ∃ ρ, SR X.K { b with kept := hide H3 fp } ρ σ' H' ∧ SOut X.K cl b W E (forL ff (ds.drop (i + 1)) ρ), fun σ' H' z => ⟨ds.length - (i + 1), by omega, rfl, hlt, z⟩, fun x H' y => ?_⟩
              obtain ⟨e1, r1⟩ := yl x H' y
              subst e1
              rw [List.drop_eq_getElem_cons hlt] at q
              have q : SOut X.K cl b W E (match ff ds[i] ρ with
                | .nx ρ' => forL ff (ds.drop (i + 1)) ρ'
                | .ct ρ' => forL ff (ds.drop (i + 1)) ρ'
                | .bk ρ' => .nx ρ'
                | r => r) := q
              have ed : ff ds[i] ρ = (tg.set ds[i] ρ).bindR ρ fun ρ' => S.runs G body ρ' := by rw [← hff]
              cases es : tg.set ds[i] ρ with
              | no => rw [ed, es] at q; exact q.elim
              | ex c fs => exact absurd es (tg_nx _ _ _ c fs)
              | ok ρ' =>
                rw [ed, es] at q
                refine tg_ok (b := { b with kept := hide H3 fp }) inner_vis sr r1 es (fun i hi => ⟨by show i < b.n; rw [en.n]; exact (w i hi).1, (w i hi).2 b ei⟩) fun σ' sr' => ⟨{ b with kept := hide H3 fp }, ρ', ei, en.up up, sr', ?_⟩
                simp only [R.bindR_ok] at q
                cases eb : S.runs G body ρ' with
                | nx ρ2 =>
                  rw [eb] at q
                  exact fun σ H sr => ⟨ρ2, sr, q⟩
                | ct ρ2 =>
                  rw [eb] at q
                  exact fun σ H sr => ⟨ρ2, sr, q⟩
                | bk ρ2 =>
                  rw [eb] at q
                  exact fun σ H sr => q σ H (sr.up up)
                | rt t ρ2 =>
                  rw [eb] at q
                  exact fun v σ H f fp n => q v σ H f fp (n.up up)
                | ex c fs ρ2 =>
                  rw [eb] at q
                  exact fun σ H d sr x => q σ H d (sr.up up) x
                | no => rw [eb] at q; exact q
            · have e : i = ds.length := by omega
              subst e
              rw [List.drop_length] at q
              exact .inl ⟨hJ.stop _ H (kpB sr) (Nat.le_refl _), q _ _ (sr.up up)⟩
        | _ => rw [ed] at q0; exact q0.elim
theorem cc_sout {b : Bs} {σ : St} {E : Ends} {c : Cc} {ρ : Rho} {f : T → Rho → Res} {Q : VK} (q : SOut X.K cl b W E ((c.ev G ρ).bindR f)) (k : ∀ t ρ' v H f' fp, New X.K b ρ' σ H fp t v f' → SOut X.K cl b W E (f t ρ') → Q v H) : CcOut X.K cl b W σ (c.ev G ρ) Q := by
  cases e : c.ev G ρ with
  | no => rw [e] at q; exact q
  | ex k fs ρ' => rw [e] at q; exact fun H d sr x => q σ H d sr x
  | ok t ρ' =>
    rw [e] at q
    exact fun v H f' fp n => k t ρ' v H f' fp n q
theorem st_exc {c : Cc} {e : Expr} {pos : Pos} (g : SX Y G cl sc X W) (hh : Y.x.hot = false) (hl : isLC e = false) (hp : Cc.chk Y sc c e = true) : PS X (.Expr e pos) (tS X.K Y G cl W (.exc c)) := by
  refine PS.mono (ps_expr (snd_cc g hh hp) (sw_not hl _ _ _)) fun E σ H h => at_tR h fun b ρ fp ei en sr q => ?_
  have q : SOut X.K cl b W E ((c.ev G ρ).bindR fun _ ρ' => .nx ρ') := q
  exact ⟨g.cold hh, b, en.x.eT, ρ, fp, sr, cc_sout q fun t ρ' v H f' fp n q => q _ _ ⟨fp, n.sr⟩⟩
theorem st_asc {i : Nat} {c : Cc} {own : Bool} {x : Str} {e : Expr} {px pos : Pos} (g : SX Y G cl sc X W) (hh : Y.x.hot = false) (hw : wr Y sc i x = true) (hl : isLC e = false) (hp : Cc.chk Y sc c e = true) : PS X (.Assign [.Name x px] e pos) (tS X.K Y G cl W (.asc i c own)) := by
  obtain ⟨h1, h2, h3, h4⟩ := wr_of g hw
  refine PS.mono (ps_set g.nd h1 h2 (snd_cc g hh hp) (sw_not hl _ _ _) (.inl (g.fnt x))) fun E σ H h => at_tR h fun b ρ fp ei en sr q => ?_
  have q : SOut X.K cl b W E ((c.ev G ρ).bindR fun t ρ' => .nx (ρ'.set i (some (if own then t else .fz t.d)))) := q
  refine ⟨g.cold hh, b, en.x.eT, ρ, fp, sr, cc_sout q fun t ρ' v H f' fp n q => ?_⟩
  cases own with
  | true => exact q _ _ (n.store (by rw [en.n]; exact h3) (h4 ei))
  | false => exact q _ _ (n.frz.store (by rw [en.n]; exact h3) (h4 ei))
theorem st_retc {c : Cc} {e : Expr} {pos : Pos} (g : SX Y G cl sc X W) (hh : Y.x.hot = false) (hp : Cc.chk Y sc c e = true) : PS X (.Return (some e) pos) (tS X.K Y G cl W (.retc c)) := by
  refine PS.mono (ps_ret (snd_cc g hh hp)) fun E σ H h => at_tR h fun b ρ fp ei en sr q => ?_
  have q : SOut X.K cl b W E ((c.ev G ρ).bindR fun t ρ' => .rt t ρ') := q
  exact ⟨g.cold hh, b, en.x.eT, ρ, fp, sr, cc_sout q fun t ρ' v H f' fp n q => q v σ H f' fp n⟩
end
end Gn

set_option Elab.async false
set_option linter.all false
set_option maxRecDepth 100000
set_option maxHeartbeats 4000000
namespace Gn
open PySem PySem.Spec PyProof.Rows L2
variable [Tbls]

section
variable {K : PySem.W.Frag} {b : Bs} {ρ : Rho} {σ : St} {H : Hp} {fp : List Addr}
theorem SRf.forget (h : SRf K b ρ σ H fp) (t : Nat) (x : Option V) (ni : ∀ p ∈ b.io, p.1 ≠ t) : ∃ fq, SRf K b (ρ.set t none) (σ.set t x) H fq := by
  obtain ⟨f2, o2, s2⟩ := h.ow.forget t x
  refine ⟨f2, h.kp, fun a ha => h.nk a (s2 a ha), fun a ha => h.nf a (s2 a ha), h.ho, o2.keep (keep_less fun a ha => ?_), fun p hp => ?_, by rw [List.length_set]; exact h.ln, h.tb⟩
  · rcases List.mem_append.mp ha with z | z
    · exact List.mem_append_left _ (s2 a z)
    · exact List.mem_append_right _ z
  · rw [List.getElem?_set_ne (Ne.symm (ni p hp))]
    exact h.io p hp
end
section
variable {Y : Sy} {G : Gam} {cl : Cl} {sc : Scope} {X : Cx} {W : WX}
theorem st_appe {t i : Nat} {p : P} {m : Md} {r x : Str} {e : Expr} {p1 p2 p3 ap cp p4 pos : Pos} (g : SX Y G cl sc X W) (hh : Y.x.hot = false) (hw : wr Y sc t r = true) (hr : rd Y sc i x = true) (ht : rd Y sc t r = true) (pl : plainE e = true) (hl : (ap.endLine == cp.line) = true) (hp : p.chk Y.x sc e = true) :
    PS X (.For (.Name r p1) (.Name x p2) [.Expr (.Call (.Attribute (.Name r p3) ("append" : Str) ap) [e] [] cp) p4] [] pos) (tS X.K Y G cl W (.appe t i p m)) := by
  obtain ⟨w1, w2, w3, w4⟩ := wr_of g hw
  refine PS.mono (ps_for g.po (g.calm hh) (pi_list (rd_of g hr)) (pg_name g.nd w1 w2 (.inl (g.fnt r))) (pss_one (ps_expr (pe_bm PySem.F.plainAttrs_list PySem.F.slot_list_append PySem.F.type_list_append mt_append (rd_of g ht) (pa_cons ((P.sd p).pe g.toGX hp) pa_nil (star_of pl [] _)) rfl (few1 pl) hl (star_of pl [] _) rfl))) (by intro _; rfl)) fun E σ H h => at_tR h fun b ρ fp ei en sr q => ?_
  have q : SOut X.K cl b W E ((slotL ρ i).bindR ρ fun ts => appeF G t i p m ts.length 0 ρ) := q
  obtain ⟨ts, e1, q⟩ := q.get (slotL_nx _ _)
  have e1 := slotL_ok e1
  obtain ⟨a, vs, g1, f1, l⟩ := (New.none sr).look e1
  refine ⟨_, l.ei, a, rfl, ⟨vs, SqL.of l.ea⟩, ?_⟩
  generalize hn : ts.length = n at q
  refine ⟨fun j k σ H => k = n - j ∧ j ≤ n ∧ ∃ ρ fp ts, SRf X.K b ρ σ H fp ∧ ρ[i]? = some (some (.lst ts)) ∧ ts.length = n ∧ σ[i]? = some (some (.ref a)) ∧ SOut X.K cl b W E (appeF G t i p m (n - j) j ρ), ⟨n, rfl, Nat.zero_le _, ρ, fp, ts, sr, e1, hn, l.ei, q⟩, ?_⟩
  clear q l e1 hn sr
  rintro j k σ H ⟨rfl, hj, ρ, fp, ts, sr, e1, hn, es, q⟩
  obtain ⟨a2, vs, g1, f1, l⟩ := (New.none sr).look e1
  have ea : a2 = a := by
    have := l.ei.symm.trans es
    cases this
    rfl
  subst ea
  have vl : vs.length = n := by rw [l.o.length, hn]
  by_cases hlt : j < n
  · obtain ⟨k, hk⟩ : ∃ k, n - j = k + 1 := ⟨n - j - 1, by omega⟩
    rw [hk] at q
    have q : SOut X.K cl b W E ((slotL (ρ.set t none) i).bindR (ρ.set t none) fun ts => (subL ts j).bindR (ρ.set t none) fun us => (p.evm G m (ρ.set t none)).bindR (ρ.set t none) fun v =>
      if us.length < sizeLine then appeF G t i p m k (j + 1) ((ρ.set t none).set i (some (.lst (ts.set j (.lst (us ++ [v])))))) else .no) := q
    have jv : vs[j]? = some (vs[j]'(by omega)) := List.getElem?_eq_getElem (by omega)
    generalize vs[j]'(by omega) = v0 at jv
    refine .inr ⟨⟨vs, v0, SqL.of l.ea, jv⟩, fun σ' H' => ∃ ρ fp ts, SRf X.K b ρ σ' H' fp ∧ ρ[i]? = some (some (.lst ts)) ∧ ts.length = n ∧ σ'[i]? = some (some (.ref a2)) ∧ SOut X.K cl b W E (appeF G t i p m (n - (j + 1)) (j + 1) ρ), fun σ' H' z => ⟨n - (j + 1), by omega, rfl, hlt, z⟩, fun x H' ⟨y1, y2⟩ => ?_⟩
    subst y1
    have y2 := y2 vs (SqL.of l.ea)
    rw [jv] at y2
    cases y2
    have tl : t < σ.length := by rw [sr.ln, en.n]; exact w3
    obtain ⟨fq, sr1⟩ := sr.forget t (some v0) (w4 ei)
    obtain ⟨ts1, e2, q⟩ := q.get (slotL_nx _ _)
    have e2 := slotL_ok e2
    have ti : t ≠ i := fun z => by
      subst z
      rw [List.getElem?_set_self (by rw [sr.ow.length]; exact tl)] at e2
      cases e2
    have e3 := e2
    rw [List.getElem?_set_ne ti, e1] at e3
    cases e3
    obtain ⟨us, e5, q⟩ := q.get (subL_nx _ _)
    have e5 := subL_ok e5
    have es1 : (σ.set t (some v0))[i]? = some (some (.ref a2)) := by rw [List.getElem?_set_ne ti]; exact es
    obtain ⟨w, f3, f4, e6, ov, _, _, _⟩ := l.o.out e5
    rw [jv] at e6
    cases e6
    cases ov with
    | @lst c vs2 _ g3 ec cg o3 =>
      refine ⟨_, List.getElem?_set_self tl, .inl ⟨rfl, _, SqL.of ec⟩, tP_ofS (m := m) sr1 en.x (q.evmS sr1 fun tv y H3 f fp3 s3 n2 z => ?_)⟩
      by_cases cz : us.length < sizeLine
      · rw [if_pos cz] at z
        have ea3 : AtS true H3 a2 vs := AtS.ext (bo := true) s3 l.ea
        obtain ⟨fq2, n3⟩ := n2.deep (bo := true) e2 e5 es1 ea3 jv (s3 _ _ ec)
        refine ⟨_, vs2, y, rfl, rfl, s3 _ _ ec, by rw [o3.length]; exact cz, _, fq2, ts.set j (.lst (us ++ [tv])), n3, ?_, ?_, es1, ?_⟩
        · exact List.getElem?_set_self (by rw [List.length_set, sr.ow.length]; exact (List.getElem?_eq_some_iff.mp es).1)
        · rw [List.length_set]; exact hn
        · have : n - (j + 1) = k := by omega
          rw [this]
          exact z
      · rw [if_neg cz] at z
        exact z.elim
  · have ej : j = n := by omega
    subst ej
    rw [Nat.sub_self] at q
    exact .inl ⟨⟨vs, SqL.of l.ea, by omega⟩, q _ _ ⟨fp, sr⟩⟩
end
end Gn

set_option Elab.async false
set_option linter.all false
set_option maxRecDepth 100000
set_option maxHeartbeats 4000000
namespace Gn
open PySem PySem.Spec PyProof.Rows L2
variable [Tbls]

mutual
def S.chk : Sy → S → Scope → Stmt → Bool
  | Y, .itec t a b, sc, .If e ps qs _ => !Y.x.hot && (Ct.chk Y sc t e && (S.chks Y a sc ps && S.chks Y b sc qs))
  | Y, .exc c, sc, .Expr e _ => !Y.x.hot && (!isLC e && Cc.chk Y sc c e)
  | Y, .asc i c _, sc, .Assign [.Name x _] e _ => !Y.x.hot && (wr Y sc i x && (!isLC e && Cc.chk Y sc c e))
  | Y, .retc c, sc, .Return (some e) _ => !Y.x.hot && Cc.chk Y sc c e
  | Y, .forx tg p q body, sc, .For t (.Subscript a a2 _) sts [] _ => !Y.x.hot && (tgB Y sc tg t && (plainE a2 && (p.chk Y.x sc a && (q.chk Y.x sc a2 && S.chks Y body sc sts))))
  | Y, .pas, _, .Pass _ => true
  | Y, .brk, _, .Break _ => true
  | Y, .cnt, _, .Continue _ => true
  | Y, .asg i p _ _, sc, .Assign [.Name x _] e _ => wr Y sc i x && p.chk Y.x sc e
  | Y, .tas is p _, sc, .Assign [.Tuple es k tp] e _ => !Y.x.hot && (tgB Y sc (.tup is) (.Tuple es k tp) && (!isTup e && p.chk Y.x sc e))
  | Y, .aug i o p, sc, .AugAssign (.Name x _) op e _ => wr Y sc i x && ((decide (o = .add) || decide (o = .sub)) && (decide (op = o.op) && p.chk Y.x sc e))
  | Y, .app i p _, sc, .Expr (.Call (.Attribute (.Name x _) a ap) [e] [] cp) _ => decide (a = ("append" : Str)) && (rd Y sc i x && (plainE e && ((ap.endLine == cp.line) && p.chk Y.x sc e)))
  | Y, .updt i q p _, sc, .Assign [.Subscript (.Name x _) a _] e _ => rd Y sc i x && (plainE a && (q.chk Y.x sc a && p.chk Y.x sc e))
  | Y, .augx i q o p, sc, .AugAssign (.Subscript (.Name x _) a _) op e _ => rd Y sc i x && (plainE a && ((decide (o = .add) || decide (o = .sub)) && (decide (op = o.op) && (q.chk Y.x sc a && p.chk Y.x sc e))))
  | Y, .pop0 j i, sc, .Assign [.Name w _] (.Call (.Attribute (.Name x _) a ap) [] [] cp) _ => decide (a = ("pop" : Str)) && (wr Y sc j w && (rd Y sc i x && (ap.endLine == cp.line)))
  | Y, .geti j i p, sc, .Assign [.Name w _] (.Subscript (.Name x _) e _) _ => wr Y sc j w && (rd Y sc i x && (plainE e && p.chk Y.x sc e))
  | Y, .popi j i p, sc, .Assign [.Name w _] (.Call (.Attribute (.Name x _) a ap) [e] [] cp) _ => decide (a = ("pop" : Str)) && (wr Y sc j w && (rd Y sc i x && (plainE e && ((ap.endLine == cp.line) && p.chk Y.x sc e))))
  | Y, .apop j i p, sc, .Expr (.Call (.Attribute (.Name w _) b ap2) [.Call (.Attribute (.Name x _) a ap) [e] [] cp] [] cp2) _ => decide (j ≠ i) && (decide (b = ("append" : Str)) && (decide (a = ("pop" : Str)) && (rd Y sc j w && (rd Y sc i x && (plainE e && ((ap.endLine == cp.line) && ((ap2.endLine == cp2.line) && p.chk Y.x sc e)))))))
  | Y, .rmv i p, sc, .Expr (.Call (.Attribute (.Name x _) a ap) [e] [] cp) _ => decide (a = ("remove" : Str)) && (rd Y sc i x && (plainE e && ((ap.endLine == cp.line) && p.chk Y.x sc e)))
  | Y, .popx i p, sc, .Expr (.Call (.Attribute (.Name x _) a ap) [e] [] cp) _ => decide (a = ("pop" : Str)) && (rd Y sc i x && (plainE e && ((ap.endLine == cp.line) && p.chk Y.x sc e)))
  | Y, .ins i q p _, sc, .Expr (.Call (.Attribute (.Name x _) a ap) [e, e2] [] cp) _ => decide (a = ("insert" : Str)) && (rd Y sc i x && (plainE e && (plainE e2 && ((ap.endLine == cp.line) && (q.chk Y.x sc e && p.chk Y.x sc e2)))))
  | Y, .appx i q p _, sc, .Expr (.Call (.Attribute (.Subscript (.Name x _) a0 _) a ap) [e] [] cp) _ => decide (a = ("append" : Str)) && (rd Y sc i x && (plainE a0 && (plainE e && ((ap.endLine == cp.line) && (q.chk Y.x sc a0 && p.chk Y.x sc e)))))
  | Y, .appe t i p _, sc, .For (.Name r _) (.Name x _) [.Expr (.Call (.Attribute (.Name r2 _) a ap) [e] [] cp) _] [] _ => decide (a = ("append" : Str)) && (decide (r2 = r) && (!Y.x.hot && (wr Y sc t r && (rd Y sc i x && (rd Y sc t r && (plainE e && ((ap.endLine == cp.line) && p.chk Y.x sc e)))))))
  | Y, .expr p, sc, .Expr e _ => !isLC e && p.chk Y.x sc e
  | Y, .ite c a b, sc, .If e ps qs _ => c.chk Y.x sc e && (S.chks Y a sc ps && S.chks Y b sc qs)
  | Y, .for1 tg k its body, sc, .For t a sts [] _ => !Y.x.hot && (tgB Y sc tg t && ((match iterArgs Y.x sc k a with
    | some es => P.chks Y.x its sc es
    | none => false) && S.chks Y body sc sts))
  | Y, .whl c body, sc, .While e sts [] _ => c.chk Y.x sc e && S.chks Y body sc sts
  | Y, .ret p _, sc, .Return (some e) _ => p.chk Y.x sc e
  | Y, .retd s i, sc, .Return (some (.Tuple [c, .Name x _] _ _)) _ => rd Y sc i x && (plainE c && (P.cst (.str s)).chk Y.x sc c)
  | Y, .retm i, sc, .Return (some (.Name x _)) _ => rd Y sc i x
  | Y, .retN, _, .Return none _ => true
  | Y, .rais c ps, sc, .Raise (some (.Call (.Name x _) es [] _)) none _ => !Y.x.hot && (decide (Y.en[c]? = some (x, ps.length)) && (!es.isEmpty && (glB sc x && (okName x && P.chks Y.x ps sc es))))
  | Y, .frz _ s, sc, st => S.chk Y s sc st
  | Y, .tryx b h, sc, .Try body (h₀ :: hds) [] [] _ => !Y.x.hot && (S.chks Y b sc body && S.hchk Y h sc (h₀ :: hds))
  | _, _, _, _ => false
def S.hchk : Sy → S → Scope → List ExceptHandler → Bool
  | _, .hnil, _, [] => true
  | Y, .hcons k o b r, sc, .ExceptHandler (some (.Name x _)) nm (b₀ :: su) _ :: hds => decide (Y.x.cn[k]? = some x) && (glB sc x && (okName x && (nmB Y sc o nm && (S.chks (Y.hot o) b sc (b₀ :: su) && S.hchk Y r sc hds))))
  | _, _, _, _ => false
def S.chks : Sy → List S → Scope → List Stmt → Bool
  | _, [], _, [] => true
  | Y, s :: ss, sc, st :: sts => S.chk Y s sc st && S.chks Y ss sc sts
  | _, _, _, _ => false
end
section
variable {sc : Scope}
theorem neB {b : Bool} (h : (!b) = true) : b = false := by cases b <;> first | rfl | cases h
theorem apop_chk {j i : Nat} {p : P} {Y : Sy} {st : Stmt} (h : S.chk Y (.apop j i p) sc st = true) : ∃ w pw b ap2 x px a ap e cp cp2 pos, st = .Expr (.Call (.Attribute (.Name w pw) b ap2) [.Call (.Attribute (.Name x px) a ap) [e] [] cp] [] cp2) pos ∧
    (decide (j ≠ i) && (decide (b = ("append" : Str)) && (decide (a = ("pop" : Str)) && (rd Y sc j w && (rd Y sc i x && (plainE e && ((ap.endLine == cp.line) && ((ap2.endLine == cp2.line) && p.chk Y.x sc e)))))))) = true := by
  unfold S.chk at h
  split at h <;> first | (exfalso; contradiction) | skip
  rename_i e1
  cases e1
  exact ⟨_, _, _, _, _, _, _, _, _, _, _, _, rfl, h⟩
theorem augx_chk {i : Nat} {q p : P} {o : BinO} {Y : Sy} {st : Stmt} (h : S.chk Y (.augx i q o p) sc st = true) : ∃ x px a tp op e pos, st = .AugAssign (.Subscript (.Name x px) a tp) op e pos ∧ (rd Y sc i x && (plainE a && ((decide (o = .add) || decide (o = .sub)) && (decide (op = o.op) && (q.chk Y.x sc a && p.chk Y.x sc e))))) = true := by
  unfold S.chk at h
  split at h <;> first | (exfalso; contradiction) | skip
  rename_i e1
  cases e1
  exact ⟨_, _, _, _, _, _, _, rfl, h⟩
theorem pop0_chk {j i : Nat} {Y : Sy} {st : Stmt} (h : S.chk Y (.pop0 j i) sc st = true) : ∃ w pw x px a ap cp pos, st = .Assign [.Name w pw] (.Call (.Attribute (.Name x px) a ap) [] [] cp) pos ∧ (decide (a = ("pop" : Str)) && (wr Y sc j w && (rd Y sc i x && (ap.endLine == cp.line)))) = true := by
  unfold S.chk at h
  split at h <;> first | (exfalso; contradiction) | skip
  rename_i e1
  cases e1
  exact ⟨_, _, _, _, _, _, _, _, rfl, h⟩
theorem geti_chk {j i : Nat} {p : P} {Y : Sy} {st : Stmt} (h : S.chk Y (.geti j i p) sc st = true) : ∃ w pw x px e sp pos, st = .Assign [.Name w pw] (.Subscript (.Name x px) e sp) pos ∧ (wr Y sc j w && (rd Y sc i x && (plainE e && p.chk Y.x sc e))) = true := by
  unfold S.chk at h
  split at h <;> first | (exfalso; contradiction) | skip
  rename_i e1
  cases e1
  exact ⟨_, _, _, _, _, _, _, rfl, h⟩
theorem itec_chk {t : Ct} {a b : List S} {Y : Sy} {st : Stmt} (h : S.chk Y (.itec t a b) sc st = true) : ∃ e ps qs pos, st = .If e ps qs pos ∧ (!Y.x.hot && (Ct.chk Y sc t e && (S.chks Y a sc ps && S.chks Y b sc qs))) = true := by
  unfold S.chk at h
  split at h <;> first | (exfalso; contradiction) | skip
  rename_i e1
  cases e1
  exact ⟨_, _, _, _, rfl, h⟩
theorem forx_chk {tg : Tg} {p q : P} {body : List S} {Y : Sy} {st : Stmt} (h : S.chk Y (.forx tg p q body) sc st = true) : ∃ t a a2 sp sts pos, st = .For t (.Subscript a a2 sp) sts [] pos ∧ (!Y.x.hot && (tgB Y sc tg t && (plainE a2 && (p.chk Y.x sc a && (q.chk Y.x sc a2 && S.chks Y body sc sts))))) = true := by
  unfold S.chk at h
  split at h <;> first | (exfalso; contradiction) | skip
  rename_i e1
  cases e1
  exact ⟨_, _, _, _, _, _, rfl, h⟩
theorem exc_chk {c : Cc} {Y : Sy} {st : Stmt} (h : S.chk Y (.exc c) sc st = true) : ∃ e pos, st = .Expr e pos ∧ (!Y.x.hot && (!isLC e && Cc.chk Y sc c e)) = true := by
  unfold S.chk at h
  split at h <;> first | (exfalso; contradiction) | skip
  rename_i e1
  cases e1
  exact ⟨_, _, rfl, h⟩
theorem asc_chk {i : Nat} {c : Cc} {own : Bool} {Y : Sy} {st : Stmt} (h : S.chk Y (.asc i c own) sc st = true) : ∃ x px e pos, st = .Assign [.Name x px] e pos ∧ (!Y.x.hot && (wr Y sc i x && (!isLC e && Cc.chk Y sc c e))) = true := by
  unfold S.chk at h
  split at h <;> first | (exfalso; contradiction) | skip
  rename_i e1
  cases e1
  exact ⟨_, _, _, _, rfl, h⟩
theorem retc_chk {c : Cc} {Y : Sy} {st : Stmt} (h : S.chk Y (.retc c) sc st = true) : ∃ e pos, st = .Return (some e) pos ∧ (!Y.x.hot && Cc.chk Y sc c e) = true := by
  unfold S.chk at h
  split at h <;> first | (exfalso; contradiction) | skip
  rename_i e1
  cases e1
  exact ⟨_, _, rfl, h⟩
theorem retd_chk {i : Nat} {s : Str} {Y : Sy} {st : Stmt} (h : S.chk Y (.retd s i) sc st = true) : ∃ c x px k tp pos, st = .Return (some (.Tuple [c, .Name x px] k tp)) pos ∧ (rd Y sc i x && (plainE c && (P.cst (.str s)).chk Y.x sc c)) = true := by
  unfold S.chk at h
  split at h <;> first | (exfalso; contradiction) | skip
  rename_i e1
  cases e1
  exact ⟨_, _, _, _, _, _, rfl, h⟩
theorem rmv_chk {i : Nat} {p : P} {Y : Sy} {st : Stmt} (h : S.chk Y (.rmv i p) sc st = true) : ∃ x px a ap e cp pos, st = .Expr (.Call (.Attribute (.Name x px) a ap) [e] [] cp) pos ∧ (decide (a = ("remove" : Str)) && (rd Y sc i x && (plainE e && ((ap.endLine == cp.line) && p.chk Y.x sc e)))) = true := by
  unfold S.chk at h
  split at h <;> first | (exfalso; contradiction) | skip
  rename_i e1
  cases e1
  exact ⟨_, _, _, _, _, _, _, rfl, h⟩
theorem popx_chk {i : Nat} {p : P} {Y : Sy} {st : Stmt} (h : S.chk Y (.popx i p) sc st = true) : ∃ x px a ap e cp pos, st = .Expr (.Call (.Attribute (.Name x px) a ap) [e] [] cp) pos ∧ (decide (a = ("pop" : Str)) && (rd Y sc i x && (plainE e && ((ap.endLine == cp.line) && p.chk Y.x sc e)))) = true := by
  unfold S.chk at h
  split at h <;> first | (exfalso; contradiction) | skip
  rename_i e1
  cases e1
  exact ⟨_, _, _, _, _, _, _, rfl, h⟩
theorem ins_chk {i : Nat} {q p : P} {m : Md} {Y : Sy} {st : Stmt} (h : S.chk Y (.ins i q p m) sc st = true) : ∃ x px a ap e e2 cp pos, st = .Expr (.Call (.Attribute (.Name x px) a ap) [e, e2] [] cp) pos ∧ (decide (a = ("insert" : Str)) && (rd Y sc i x && (plainE e && (plainE e2 && ((ap.endLine == cp.line) && (q.chk Y.x sc e && p.chk Y.x sc e2)))))) = true := by
  unfold S.chk at h
  split at h <;> first | (exfalso; contradiction) | skip
  rename_i e1
  cases e1
  exact ⟨_, _, _, _, _, _, _, _, rfl, h⟩
theorem appx_chk {i : Nat} {q p : P} {m : Md} {Y : Sy} {st : Stmt} (h : S.chk Y (.appx i q p m) sc st = true) : ∃ x px a0 ip a ap e cp pos, st = .Expr (.Call (.Attribute (.Subscript (.Name x px) a0 ip) a ap) [e] [] cp) pos ∧ (decide (a = ("append" : Str)) && (rd Y sc i x && (plainE a0 && (plainE e && ((ap.endLine == cp.line) && (q.chk Y.x sc a0 && p.chk Y.x sc e)))))) = true := by
  unfold S.chk at h
  split at h <;> first | (exfalso; contradiction) | skip
  rename_i e1
  cases e1
  exact ⟨_, _, _, _, _, _, _, _, _, rfl, h⟩
theorem appe_chk {t i : Nat} {p : P} {m : Md} {Y : Sy} {st : Stmt} (h : S.chk Y (.appe t i p m) sc st = true) : ∃ r p1 x p2 r2 p3 a ap e cp p4 pos, st = .For (.Name r p1) (.Name x p2) [.Expr (.Call (.Attribute (.Name r2 p3) a ap) [e] [] cp) p4] [] pos ∧
    (decide (a = ("append" : Str)) && (decide (r2 = r) && (!Y.x.hot && (wr Y sc t r && (rd Y sc i x && (rd Y sc t r && (plainE e && ((ap.endLine == cp.line) && p.chk Y.x sc e)))))))) = true := by
  unfold S.chk at h
  split at h <;> first | (exfalso; contradiction) | skip
  rename_i e1
  cases e1
  exact ⟨_, _, _, _, _, _, _, _, _, _, _, _, rfl, h⟩
mutual
theorem S.sd : ∀ (s : S) {Y : Sy} {G : Gam} {cl : Cl} {X : Cx} {W : WX} {st : Stmt}, SX Y G cl sc X W → S.chk Y s sc st = true → PS X st (tS X.K Y G cl W s)
  | .pas, Y, G, cl, X, W, st, g, h => by
    cases st with
    | Pass p => exact st_pas
    | _ => exact cfalse h
  | .brk, Y, G, cl, X, W, st, g, h => by
    cases st with
    | Break p => exact st_brk
    | _ => exact cfalse h
  | .cnt, Y, G, cl, X, W, st, g, h => by
    cases st with
    | Continue p => exact st_cnt
    | _ => exact cfalse h
  | .asg i p m own, Y, G, cl, X, W, st, g, h => by
    cases st with
    | Assign tgs e pos =>
      match tgs, h with
      | [], h => exact cfalse h
      | [tg], h =>
        cases tg with
        | Name x px =>
          obtain ⟨h1, h2⟩ := b2 (show (wr Y sc i x && p.chk Y.x sc e) = true from h)
          exact st_asg g h1 h2
        | _ => exact cfalse h
      | tg :: _ :: _, h => exact cfalse (by cases tg <;> exact h)
    | _ => exact cfalse h
  | .tas is p m, Y, G, cl, X, W, st, g, h => by
    cases st with
    | Assign tgs e pos =>
      match tgs, h with
      | [], h => exact cfalse h
      | [tg], h =>
        cases tg with
        | Tuple es k tp =>
          obtain ⟨hh, h⟩ := b2 (show (!Y.x.hot && (tgB Y sc (.tup is) (.Tuple es k tp) && (!isTup e && p.chk Y.x sc e))) = true from h)
          obtain ⟨h1, h2⟩ := b2 h
          obtain ⟨h2, h3⟩ := b2 h2
          exact st_tas g (neB hh) h1 (neB h2) h3
        | _ => exact cfalse h
      | tg :: _ :: _, h => exact cfalse (by cases tg <;> exact h)
    | _ => exact cfalse h
  | .aug i o p, Y, G, cl, X, W, st, g, h => by
    cases st with
    | AugAssign tg op e pos =>
      cases tg with
      | Name x px =>
        obtain ⟨h1, h2⟩ := b2 (show (wr Y sc i x && ((decide (o = .add) || decide (o = .sub)) && (decide (op = o.op) && p.chk Y.x sc e))) = true from h)
        obtain ⟨h3, h4⟩ := b2 h2
        obtain ⟨h5, h6⟩ := b2 h4
        have e1 := of_decide_eq_true h5
        subst e1
        exact st_aug g h1 ((Bool.or_eq_true_iff.mp h3).imp of_decide_eq_true of_decide_eq_true) h6
      | _ => exact cfalse h
    | _ => exact cfalse h
  | .app i p m, Y, G, cl, X, W, st, g, h => by
    cases st with
    | Expr e pos =>
      cases e with
      | Call f es kws cp =>
        cases f with
        | Attribute o a ap =>
          cases o with
          | Name x px =>
            match es, kws, h with
            | [e], [], h =>
              obtain ⟨h1, h2⟩ := b2 (show (decide (a = ("append" : Str)) && (rd Y sc i x && (plainE e && ((ap.endLine == cp.line) && p.chk Y.x sc e)))) = true from h)
              obtain ⟨h2, h3⟩ := b2 h2
              obtain ⟨h3, h4⟩ := b2 h3
              obtain ⟨h4, h5⟩ := b2 h4
              have e1 := of_decide_eq_true h1
              subst e1
              exact st_app g h2 h3 h4 h5
            | [], _, h => exact cfalse h
            | [_], _ :: _, h => exact cfalse h
            | _ :: _ :: _, _, h => exact cfalse h
          | _ => exact cfalse h
        | _ => exact cfalse h
      | _ => exact cfalse h
    | _ => exact cfalse h
  | .apop j i p, Y, G, cl, X, W, st, g, h => by
    obtain ⟨w, pw, b, ap2, x, px, a, ap, e, cp, cp2, pos, rfl, h⟩ := apop_chk h
    obtain ⟨h1, h⟩ := b2 h
    obtain ⟨h2, h⟩ := b2 h
    obtain ⟨h3, h⟩ := b2 h
    obtain ⟨h4, h⟩ := b2 h
    obtain ⟨h5, h⟩ := b2 h
    obtain ⟨h6, h⟩ := b2 h
    obtain ⟨h7, h⟩ := b2 h
    obtain ⟨h8, h9⟩ := b2 h
    have e1 := of_decide_eq_true h2
    subst e1
    have e1 := of_decide_eq_true h3
    subst e1
    exact st_apop g (of_decide_eq_true h1) h4 h5 h6 h7 h8 h9
  | .updt i q p m, Y, G, cl, X, W, st, g, h => by
    cases st with
    | Assign tgs e pos =>
      match tgs, h with
      | [], h => exact cfalse h
      | [tg], h =>
        cases tg with
        | Subscript o a tp =>
          cases o with
          | Name x px =>
            obtain ⟨h1, h2⟩ := b2 (show (rd Y sc i x && (plainE a && (q.chk Y.x sc a && p.chk Y.x sc e))) = true from h)
            obtain ⟨h2, h3⟩ := b2 h2
            obtain ⟨h3, h4⟩ := b2 h3
            exact st_updt g h1 h2 h3 h4
          | _ => exact cfalse h
        | _ => exact cfalse h
      | tg :: _ :: _, h => exact cfalse (by
          cases tg with
          | Subscript o _ _ => cases o <;> exact h
          | _ => exact h)
    | _ => exact cfalse h
  | .popi j i p, Y, G, cl, X, W, st, g, h => by
    cases st with
    | Assign tgs e pos =>
      match tgs, h with
      | [], h => exact cfalse h
      | [tg], h =>
        cases tg with
        | Name w pw =>
          cases e with
          | Call f es kws cp =>
            cases f with
            | Attribute o a ap =>
              cases o with
              | Name x px =>
                match es, kws, h with
                | [e], [], h =>
                  obtain ⟨h1, h2⟩ := b2 (show (decide (a = ("pop" : Str)) && (wr Y sc j w && (rd Y sc i x && (plainE e && ((ap.endLine == cp.line) && p.chk Y.x sc e))))) = true from h)
                  obtain ⟨h0, h2⟩ := b2 h2
                  obtain ⟨h2, h3⟩ := b2 h2
                  obtain ⟨h3, h4⟩ := b2 h3
                  obtain ⟨h4, h5⟩ := b2 h4
                  have e1 := of_decide_eq_true h1
                  subst e1
                  exact st_popi g h0 h2 h3 h4 h5
                | [], _, h => exact cfalse h
                | [_], _ :: _, h => exact cfalse h
                | _ :: _ :: _, _, h => exact cfalse h
              | _ => exact cfalse h
            | _ => exact cfalse h
          | _ => exact cfalse h
        | _ => exact cfalse h
      | tg :: _ :: _, h => exact cfalse (by
          cases tg with
          | Name _ _ =>
            cases e with
            | Call f es kws cp =>
              cases f with
              | Attribute o a ap =>
                cases o with
                | Name _ _ =>
                  match es, kws, h with
                  | [e], [], h => exact h
                  | [], _, h => exact h
                  | [_], _ :: _, h => exact h
                  | _ :: _ :: _, _, h => exact h
                | _ => exact h
              | _ => exact h
            | _ => exact h
          | _ => exact h)
    | _ => exact cfalse h
  | .augx i q o p, Y, G, cl, X, W, st, g, h => by
    obtain ⟨x, px, a, tp, op, e, pos, rfl, h⟩ := augx_chk h
    obtain ⟨h1, h⟩ := b2 h
    obtain ⟨h2, h⟩ := b2 h
    obtain ⟨h3, h⟩ := b2 h
    obtain ⟨h4, h⟩ := b2 h
    obtain ⟨h5, h6⟩ := b2 h
    have e1 := of_decide_eq_true h4
    subst e1
    exact st_augx g h1 h2 ((Bool.or_eq_true_iff.mp h3).imp of_decide_eq_true of_decide_eq_true) h5 h6
  | .pop0 j i, Y, G, cl, X, W, st, g, h => by
    obtain ⟨w, pw, x, px, a, ap, cp, pos, rfl, h⟩ := pop0_chk h
    obtain ⟨h1, h⟩ := b2 h
    obtain ⟨h2, h⟩ := b2 h
    obtain ⟨h3, h4⟩ := b2 h
    have e1 := of_decide_eq_true h1
    subst e1
    exact st_pop0 g h2 h3 h4
  | .itec t a b, Y, G, cl, X, W, st, g, h => by
    obtain ⟨e, ps, qs, pos, rfl, h⟩ := itec_chk h
    obtain ⟨h1, h⟩ := b2 h
    obtain ⟨h2, h⟩ := b2 h
    obtain ⟨h3, h4⟩ := b2 h
    exact st_itec g (neB h1) h2 (S.sds a g h3) (S.sds b g h4)
  | .forx tg p q body, Y, G, cl, X, W, st, g, h => by
    obtain ⟨t, a, a2, sp, sts, pos, rfl, h⟩ := forx_chk h
    obtain ⟨h1, h⟩ := b2 h
    obtain ⟨h2, h⟩ := b2 h
    obtain ⟨h3, h⟩ := b2 h
    obtain ⟨h4, h⟩ := b2 h
    obtain ⟨h5, h6⟩ := b2 h
    exact st_forx g (neB h1) h2 h3 h4 h5 (S.sds body g h6)
  | .exc c, Y, G, cl, X, W, st, g, h => by
    obtain ⟨e, pos, rfl, h⟩ := exc_chk h
    obtain ⟨h1, h⟩ := b2 h
    obtain ⟨h2, h3⟩ := b2 h
    exact st_exc g (neB h1) (neB h2) h3
  | .asc i c own, Y, G, cl, X, W, st, g, h => by
    obtain ⟨x, px, e, pos, rfl, h⟩ := asc_chk h
    obtain ⟨h1, h⟩ := b2 h
    obtain ⟨h2, h⟩ := b2 h
    obtain ⟨h3, h4⟩ := b2 h
    exact st_asc g (neB h1) h2 (neB h3) h4
  | .retc c, Y, G, cl, X, W, st, g, h => by
    obtain ⟨e, pos, rfl, h⟩ := retc_chk h
    obtain ⟨h1, h2⟩ := b2 h
    exact st_retc g (neB h1) h2
  | .geti j i p, Y, G, cl, X, W, st, g, h => by
    obtain ⟨w, pw, x, px, e, sp, pos, rfl, h⟩ := geti_chk h
    obtain ⟨h1, h⟩ := b2 h
    obtain ⟨h2, h⟩ := b2 h
    obtain ⟨h3, h4⟩ := b2 h
    exact st_geti g h1 h2 h3 h4
  | .retd s i, Y, G, cl, X, W, st, g, h => by
    obtain ⟨c, x, px, k, tp, pos, rfl, h⟩ := retd_chk h
    obtain ⟨h1, h⟩ := b2 h
    obtain ⟨h2, h3⟩ := b2 h
    exact st_retd g h1 h2 h3
  | .rmv i p, Y, G, cl, X, W, st, g, h => by
    obtain ⟨x, px, a, ap, e, cp, pos, rfl, h⟩ := rmv_chk h
    obtain ⟨h1, h⟩ := b2 h
    obtain ⟨h2, h⟩ := b2 h
    obtain ⟨h3, h⟩ := b2 h
    obtain ⟨h4, h5⟩ := b2 h
    have e1 := of_decide_eq_true h1
    subst e1
    exact st_rmv g h2 h3 h4 h5
  | .popx i p, Y, G, cl, X, W, st, g, h => by
    obtain ⟨x, px, a, ap, e, cp, pos, rfl, h⟩ := popx_chk h
    obtain ⟨h1, h⟩ := b2 h
    obtain ⟨h2, h⟩ := b2 h
    obtain ⟨h3, h⟩ := b2 h
    obtain ⟨h4, h5⟩ := b2 h
    have e1 := of_decide_eq_true h1
    subst e1
    exact st_popx g h2 h3 h4 h5
  | .ins i q p m, Y, G, cl, X, W, st, g, h => by
    obtain ⟨x, px, a, ap, e, e2, cp, pos, rfl, h⟩ := ins_chk h
    obtain ⟨h1, h⟩ := b2 h
    obtain ⟨h2, h⟩ := b2 h
    obtain ⟨h3, h⟩ := b2 h
    obtain ⟨h4, h⟩ := b2 h
    obtain ⟨h5, h⟩ := b2 h
    obtain ⟨h6, h7⟩ := b2 h
    have e1 := of_decide_eq_true h1
    subst e1
    exact st_ins g h2 h3 h4 h5 h6 h7
  | .appx i q p m, Y, G, cl, X, W, st, g, h => by
    obtain ⟨x, px, a0, ip, a, ap, e, cp, pos, rfl, h⟩ := appx_chk h
    obtain ⟨h1, h⟩ := b2 h
    obtain ⟨h2, h⟩ := b2 h
    obtain ⟨h3, h⟩ := b2 h
    obtain ⟨h4, h⟩ := b2 h
    obtain ⟨h5, h⟩ := b2 h
    obtain ⟨h6, h7⟩ := b2 h
    have e1 := of_decide_eq_true h1
    subst e1
    exact st_appx g h2 h3 h4 h5 h6 h7
  | .appe t i p m, Y, G, cl, X, W, st, g, h => by
    obtain ⟨r, p1, x, p2, r2, p3, a, ap, e, cp, p4, pos, rfl, h⟩ := appe_chk h
    obtain ⟨h1, h⟩ := b2 h
    obtain ⟨h2, h⟩ := b2 h
    obtain ⟨h3, h⟩ := b2 h
    obtain ⟨h4, h⟩ := b2 h
    obtain ⟨h5, h⟩ := b2 h
    obtain ⟨h6, h⟩ := b2 h
    obtain ⟨h7, h⟩ := b2 h
    obtain ⟨h8, h9⟩ := b2 h
    have e1 := of_decide_eq_true h1
    have e2 := of_decide_eq_true h2
    subst e1
    subst e2
    exact st_appe g (neB h3) h4 h5 h6 h7 h8 h9
  | .expr p, Y, G, cl, X, W, st, g, h => by
    cases st with
    | Expr e pos =>
      obtain ⟨h1, h2⟩ := b2 (show (!isLC e && p.chk Y.x sc e) = true from h)
      exact st_expr g (neB h1) h2
    | _ => exact cfalse h
  | .ite c a b, Y, G, cl, X, W, st, g, h => by
    cases st with
    | If e ps qs pos =>
      obtain ⟨h1, h2⟩ := b2 (show (c.chk Y.x sc e && (S.chks Y a sc ps && S.chks Y b sc qs)) = true from h)
      obtain ⟨h2, h3⟩ := b2 h2
      exact st_ite g h1 (S.sds a g h2) (S.sds b g h3)
    | _ => exact cfalse h
  | .for1 tg k its body, Y, G, cl, X, W, st, g, h => by
    cases st with
    | For t a sts els pos =>
      cases els with
      | nil =>
        obtain ⟨hh, h⟩ := b2 (show (!Y.x.hot && (tgB Y sc tg t && ((match iterArgs Y.x sc k a with
          | some es => P.chks Y.x its sc es
          | none => false) && S.chks Y body sc sts))) = true from h)
        obtain ⟨h1, h2⟩ := b2 h
        obtain ⟨h2, h3⟩ := b2 h2
        exact st_for g (neB hh) h1 h2 (S.sds body g h3)
      | cons _ _ => exact cfalse h
    | _ => exact cfalse h
  | .whl c body, Y, G, cl, X, W, st, g, h => by
    cases st with
    | While e sts els pos =>
      cases els with
      | nil =>
        obtain ⟨h1, h2⟩ := b2 (show (c.chk Y.x sc e && S.chks Y body sc sts) = true from h)
        exact st_whl g h1 (S.sds body g h2)
      | cons _ _ => exact cfalse h
    | _ => exact cfalse h
  | .ret p m, Y, G, cl, X, W, st, g, h => by
    cases st with
    | Return e pos =>
      cases e with
      | some e => exact st_ret g h
      | none => exact cfalse h
    | _ => exact cfalse h
  | .retm i, Y, G, cl, X, W, st, g, h => by
    cases st with
    | Return e pos =>
      cases e with
      | some e =>
        cases e with
        | Name x px => exact st_retm g h
        | _ => exact cfalse h
      | none => exact cfalse h
    | _ => exact cfalse h
  | .retN, Y, G, cl, X, W, st, g, h => by
    cases st with
    | Return e pos =>
      cases e with
      | some e => exact cfalse h
      | none => exact st_retN
    | _ => exact cfalse h
  | .rais c ps, Y, G, cl, X, W, st, g, h => by
    cases st with
    | Raise e c2 pos =>
      cases e with
      | none => exact cfalse h
      | some e =>
        cases e with
        | Call f es kws cp =>
          cases f with
          | Name x p =>
            cases kws with
            | nil =>
              cases c2 with
              | none =>
                obtain ⟨hh, h⟩ := b2 (show (!Y.x.hot && (decide (Y.en[c]? = some (x, ps.length)) && (!es.isEmpty && (glB sc x && (okName x && P.chks Y.x ps sc es))))) = true from h)
                obtain ⟨h1, h2⟩ := b2 (show (decide (Y.en[c]? = some (x, ps.length)) && (!es.isEmpty && (glB sc x && (okName x && P.chks Y.x ps sc es)))) = true from h)
                obtain ⟨h2, h3⟩ := b2 h2
                obtain ⟨h4, h3⟩ := b2 h3
                obtain ⟨h5, h3⟩ := b2 h3
                exact st_rais g (neB hh) (of_decide_eq_true h1) rfl (by rintro rfl; cases h2) h4 h5 h3
              | some _ => exact cfalse h
            | cons _ _ => exact cfalse h
          | _ => exact cfalse h
        | _ => exact cfalse h
    | _ => exact cfalse h
  | .frz i s, Y, G, cl, X, W, st, g, h => st_frz (S.sd s g h)
  | .tryx b hd, Y, G, cl, X, W, st, g, h => by
    cases st with
    | Try body hds els fin pos =>
      cases hds with
      | nil => exact cfalse (by cases els <;> cases fin <;> exact h)
      | cons h₀ hds =>
        cases els with
        | cons _ _ => exact cfalse h
        | nil =>
          cases fin with
          | cons _ _ => exact cfalse h
          | nil =>
            obtain ⟨hh, h⟩ := b2 (show (!Y.x.hot && (S.chks Y b sc body && S.hchk Y hd sc (h₀ :: hds))) = true from h)
            obtain ⟨h1, h2⟩ := b2 h
            exact st_try g (neB hh) (fun pn xe W' g' => S.sds b g' h1) (S.sdh hd g (neB hh) h2)
    | _ => exact cfalse h
  | .hnil, Y, G, cl, X, W, st, g, h => cfalse (by cases st <;> exact h)
  | .hcons _ _ _ _, Y, G, cl, X, W, st, g, h => cfalse (by cases st <;> exact h)
theorem S.sdh : ∀ (s : S) {Y : Sy} {G : Gam} {cl : Cl} {X : Cx} {W : WX} {hds : List ExceptHandler}, SX Y G cl sc X W → Y.x.hot = false → S.hchk Y s sc hds = true → HdsR X Y G cl W s hds
  | .hnil, Y, G, cl, X, W, hds, g, hh, h => by
    cases hds with
    | nil => exact hds_nil
    | cons _ _ => exact cfalse h
  | .hcons k o b r, Y, G, cl, X, W, hds, g, hh, h => by
    cases hds with
    | nil => exact cfalse h
    | cons e hds =>
      obtain ⟨ty, nm, su, ps⟩ := e
      cases ty with
      | none => exact cfalse h
      | some ty =>
        cases ty with
        | Name x np =>
          cases su with
          | nil => exact cfalse h
          | cons b₀ su =>
            obtain ⟨h1, q1⟩ := b2 (show (decide (Y.x.cn[k]? = some x) && (glB sc x && (okName x && (nmB Y sc o nm && (S.chks (Y.hot o) b sc (b₀ :: su) && S.hchk Y r sc hds))))) = true from h)
            obtain ⟨h2, q2⟩ := b2 q1
            obtain ⟨h3, q3⟩ := b2 q2
            obtain ⟨h4, q4⟩ := b2 q3
            obtain ⟨h5, h6⟩ := b2 q4
            exact hds_cons g hh (of_decide_eq_true h1) h2 h3 h4 (fun a oe pn c fs dd g' => S.sds b g' h5) (S.sdh r g hh h6)
        | _ => exact cfalse h
  | .itec _ _ _, Y, G, cl, X, W, hds, g, hh, h => cfalse (by cases hds <;> exact h)
  | .forx _ _ _ _, Y, G, cl, X, W, hds, g, hh, h => cfalse (by cases hds <;> exact h)
  | .exc _, Y, G, cl, X, W, hds, g, hh, h => cfalse (by cases hds <;> exact h)
  | .asc _ _ _, Y, G, cl, X, W, hds, g, hh, h => cfalse (by cases hds <;> exact h)
  | .retc _, Y, G, cl, X, W, hds, g, hh, h => cfalse (by cases hds <;> exact h)
  | .pas, Y, G, cl, X, W, hds, g, hh, h => cfalse (by cases hds <;> exact h)
  | .brk, Y, G, cl, X, W, hds, g, hh, h => cfalse (by cases hds <;> exact h)
  | .cnt, Y, G, cl, X, W, hds, g, hh, h => cfalse (by cases hds <;> exact h)
  | .asg _ _ _ _, Y, G, cl, X, W, hds, g, hh, h => cfalse (by cases hds <;> exact h)
  | .tas _ _ _, Y, G, cl, X, W, hds, g, hh, h => cfalse (by cases hds <;> exact h)
  | .aug _ _ _, Y, G, cl, X, W, hds, g, hh, h => cfalse (by cases hds <;> exact h)
  | .app _ _ _, Y, G, cl, X, W, hds, g, hh, h => cfalse (by cases hds <;> exact h)
  | .updt _ _ _ _, Y, G, cl, X, W, hds, g, hh, h => cfalse (by cases hds <;> exact h)
  | .augx _ _ _ _, Y, G, cl, X, W, hds, g, hh, h => cfalse (by cases hds <;> exact h)
  | .pop0 _ _, Y, G, cl, X, W, hds, g, hh, h => cfalse (by cases hds <;> exact h)
  | .geti _ _ _, Y, G, cl, X, W, hds, g, hh, h => cfalse (by cases hds <;> exact h)
  | .popi _ _ _, Y, G, cl, X, W, hds, g, hh, h => cfalse (by cases hds <;> exact h)
  | .apop _ _ _, Y, G, cl, X, W, hds, g, hh, h => cfalse (by cases hds <;> exact h)
  | .rmv _ _, Y, G, cl, X, W, hds, g, hh, h => cfalse (by cases hds <;> exact h)
  | .popx _ _, Y, G, cl, X, W, hds, g, hh, h => cfalse (by cases hds <;> exact h)
  | .ins _ _ _ _, Y, G, cl, X, W, hds, g, hh, h => cfalse (by cases hds <;> exact h)
  | .appx _ _ _ _, Y, G, cl, X, W, hds, g, hh, h => cfalse (by cases hds <;> exact h)
  | .appe _ _ _ _, Y, G, cl, X, W, hds, g, hh, h => cfalse (by cases hds <;> exact h)
  | .expr _, Y, G, cl, X, W, hds, g, hh, h => cfalse (by cases hds <;> exact h)
  | .ite _ _ _, Y, G, cl, X, W, hds, g, hh, h => cfalse (by cases hds <;> exact h)
  | .for1 _ _ _ _, Y, G, cl, X, W, hds, g, hh, h => cfalse (by cases hds <;> exact h)
  | .whl _ _, Y, G, cl, X, W, hds, g, hh, h => cfalse (by cases hds <;> exact h)
  | .ret _ _, Y, G, cl, X, W, hds, g, hh, h => cfalse (by cases hds <;> exact h)
  | .retd _ _, Y, G, cl, X, W, hds, g, hh, h => cfalse (by cases hds <;> exact h)
  | .retm _, Y, G, cl, X, W, hds, g, hh, h => cfalse (by cases hds <;> exact h)
  | .retN, Y, G, cl, X, W, hds, g, hh, h => cfalse (by cases hds <;> exact h)
  | .rais _ _, Y, G, cl, X, W, hds, g, hh, h => cfalse (by cases hds <;> exact h)
  | .frz _ _, Y, G, cl, X, W, hds, g, hh, h => cfalse (by cases hds <;> exact h)
  | .tryx _ _, Y, G, cl, X, W, hds, g, hh, h => cfalse (by cases hds <;> exact h)
theorem S.sds : ∀ (ss : List S) {Y : Sy} {G : Gam} {cl : Cl} {X : Cx} {W : WX} {sts : List Stmt}, SX Y G cl sc X W → S.chks Y ss sc sts = true → PSs X sts (tSs X.K Y G cl W ss)
  | [], Y, G, cl, X, W, sts, g, h => by
    cases sts with
    | nil => exact st_nil
    | cons _ _ => exact cfalse h
  | s :: ss, Y, G, cl, X, W, sts, g, h => by
    cases sts with
    | nil => exact cfalse h
    | cons st sts =>
      obtain ⟨h1, h2⟩ := b2 (show (S.chk Y s sc st && S.chks Y ss sc sts) = true from h)
      exact st_cons (S.sd s g h1) (S.sds ss g h2)
end
end
end Gn

set_option Elab.async false
set_option linter.all false
set_option maxRecDepth 100000
set_option maxHeartbeats 4000000
namespace Gn
open PySem PySem.Spec PyProof.Rows L2
variable [Tbls]

/-! ### a def keeps its promise -/
theorem OwnS.blank {K : PySem.W.Frag} {H : Hp} {hid : List Addr} : ∀ n : Nat, OwnS K H hid (List.replicate n none) (List.replicate n none) []
  | 0 => .nil
  | n + 1 => by
    rw [List.replicate_succ, List.replicate_succ]
    exact .non _ (OwnS.blank n)
theorem OwnS.init {K : PySem.W.Frag} {H : Hp} {hid : List Addr} (n : Nat) : ∀ {ts : List T} {vs : List V} {fp : List Addr}, Owns K H hid ts vs fp → OwnS K H hid (ts.map some ++ List.replicate n none) (vs.map some ++ List.replicate n none) fp
  | _, _, _, .nil => OwnS.blank n
  | _, _, _, .cons h r d => .cons h (OwnS.init n r) d
theorem outs_skip {i : Nat} {ρ : Rho} : ∀ {io : List Nat}, i ∉ io → outsOf io (ρ.set i none) = outsOf io ρ
  | [], _ => rfl
  | j :: io, h => by
    have n1 : i ≠ j := fun z => h (by simp [z])
    have n2 : i ∉ io := fun z => h (by simp [z])
    show (match (ρ.set i none)[j]? with
      | some (some t) => (do return t :: (← outsOf io (ρ.set i none)) : R (List T))
      | _ => .no) = _
    rw [List.getElem?_set_ne n1, outs_skip n2]
    rfl
theorem outs_own {K : PySem.W.Frag} {H : Hp} {hid : List Addr} {σ : St} {w : Nat → V} : ∀ {io : List Nat} {ρ : Rho} {fp : List Addr} {outs : List T}, OwnS K H hid ρ σ fp → outsOf io ρ = .ok outs → io.Nodup → (∀ i ∈ io, σ[i]? = some (some (w i))) →
    ∃ fo, Owns K H hid outs (io.map w) fo ∧ ∀ a ∈ fo, a ∈ fp
  | [], _, _, _, _, e, _, _ => by
    cases e
    exact ⟨[], .nil, fun _ h => nomatch h⟩
  | i :: io, ρ, fp, outs, o, e, nd, hw => by
    have e : (match ρ[i]? with
      | some (some t) => (do return t :: (← outsOf io ρ) : R (List T))
      | _ => .no) = .ok outs := e
    cases q : ρ[i]? with
    | none => rw [q] at e; cases e
    | some x =>
      cases x with
      | none => rw [q] at e; cases e
      | some t =>
        rw [q] at e
        cases q2 : outsOf io ρ with
        | no => rw [q2] at e; cases e
        | ex _ _ => rw [q2] at e; cases e
        | ok us =>
          rw [q2] at e
          cases e
          obtain ⟨v, f1, f2, h1, h2, h3, h4, h5⟩ := o.take q
          have h6 := hw i (by simp)
          rw [h1] at h6
          cases h6
          obtain ⟨fo, k1, k2⟩ := outs_own h3 (by rw [outs_skip (List.nodup_cons.mp nd).1]; exact q2) (List.nodup_cons.mp nd).2 fun j hj => hw j (by simp [hj])
          refine ⟨_, .cons h2 k1 fun a ha z => h4 a ha (k2 a z), fun a ha => ?_⟩
          rcases List.mem_append.mp ha with z | z
          · exact (h5 a).mpr (.inl z)
          · exact (h5 a).mpr (.inr (k2 a z))
def ioV (io : List Nat) (vs : List V) : List (Nat × V) := io.map fun i => (i, vs[i]?.getD .non)
theorem pick_eq : ∀ {io : List Nat} {vs : List V}, (∀ i ∈ io, i < vs.length) → pick io vs = io.map fun i => vs[i]?.getD .non
  | [], _, _ => rfl
  | i :: io, vs, h => by
    have hi : i < vs.length := h i (by simp)
    have e : vs[i]? = some vs[i] := List.getElem?_eq_getElem hi
    show List.filterMap (fun i => vs[i]?) (i :: io) = _
    rw [List.filterMap_cons, e]
    show vs[i] :: pick io vs = _
    rw [pick_eq fun j hj => h j (by simp [hj])]
    simp [e]
section
variable {Y : Sy} {G : Gam} {cl : Cl} {P : Program} {w : World} {K : PySem.W.Frag} {mg : Str → Option Value} {base : Heap} {x qual : Str} {params : Arguments} {body : List Stmt} {scope : Scope} {dvs : List V} {kws : List (Str × V)} {f : Addr} {fd : FuncData} {ps : List Str} {k : Nat} {b : List S}
theorem body_len {n a : Nat} {ts : List T} (h : S.body G n a b ts ≠ .no) : ts.length = a := by
  unfold S.body at h
  by_cases c : ts.length = a ∧ ioB G.io 0 ts = true
  · exact c.1
  · rw [if_neg c] at h
    exact absurd rfl h
theorem fn_ok (F : FunD K x qual params body scope dvs kws f fd) (Sc : FnScope Y.x.N ps scope) (hc : S.chks Y b scope body = true) (hio : G.io = Y.io) (hn : G.hx = none) (nd : Y.io.Nodup) (lt : ∀ i ∈ Y.io, i < ps.length)
    (ctx : ∀ (cdv : Value) (_ : ∃ oc od fdd osl, K.lookup f = some ⟨oc, od, .func fdd, osl⟩ ∧ fdd.code = cdv) (A : Around) (outer : List Env) (s : Shared) (H : Hp) (E : XK), Room k (A.deeper (envOfC qual scope s.heap.objs.size f cdv)) → SX Y G cl scope (cxOf (CX P w) P w K mg base Y.x.N qual scope f cdv A outer s H E) (fun cls d _ H => E cls d H)) :
    FnOk P w K mg base (CX P w) (k + 1) f fd ps (spT K cl ps.length Y.io (S.body G Y.x.N.length ps.length b)) := by
  obtain ⟨oc, od, dV, kV, doc, pm, an, cdv, ct, osl, rfl, lk, hcd, _, _⟩ := F.ex
  refine fn_of lk hcd Sc (fun vs H Q E h => h.1) fun A outer s H vs Q E hr hsp => ⟨_, S.sds b (ctx cdv ⟨_, _, _, _, lk, rfl⟩ A outer s H E hr) hc, ?_⟩
  obtain ⟨hl, tb, ts, fp, frn, ho, nf, o, iob, post⟩ := hsp
  have htl : ts.length = ps.length := by rw [← o.length]; exact hl
  have lt' : ∀ i ∈ Y.io, i < vs.length := fun i hi => by rw [hl]; exact lt i hi
  unfold S.body at post
  rw [hio, if_pos ⟨htl, iob⟩] at post
  have hN : ps.length ≤ Y.x.N.length := by
    have := congrArg List.length Sc.pre
    rw [List.length_take] at this
    omega
  have iov : ∀ i ∈ Y.io, (start Y.x.N vs)[i]? = some (some (vs[i]?.getD .non)) := fun i hi => by
    have l := lt' i hi
    show (vs.map some ++ _)[i]? = _
    rw [List.getElem?_append_left (by simpa using l)]
    simp [l]
  refine ⟨⟨hide H fp, frn, ioV Y.io vs, Y.x.N.length, cl.T⟩, initR Y.x.N.length ts, ?_, ⟨rfl, ⟨rfl, fun c fs e => by rw [hn] at e; cases e⟩⟩, ⟨fp, hide_ext _ _, fun a ha => hide_in ha, nf, ho, ?_, fun p hp => ?_, ?_, tb⟩, ?_⟩
  · show (Y.io.map _).map _ = _
    rw [List.map_map]
    exact List.map_id _
  · show OwnS K H (fp ++ frn) (ts.map some ++ List.replicate (Y.x.N.length - ts.length) none) (vs.map some ++ List.replicate (Y.x.N.length - vs.length) none) fp
    rw [hl, htl]
    exact OwnS.init _ o
  · obtain ⟨i, hi, rfl⟩ := List.mem_map.mp hp
    exact iov i hi
  · show (vs.map some ++ List.replicate (Y.x.N.length - vs.length) none).length = _
    simp
    omega
  · -- the end
    have io2 : ∀ {σ : St}, (∀ p ∈ ioV Y.io vs, σ[p.1]? = some (some p.2)) → ∀ i ∈ Y.io, σ[i]? = some (some (vs[i]?.getD .non)) := fun {σ} h i hi => h (i, _) (List.mem_map_of_mem hi)
    have fin : ∀ {t : T} {ρ : Rho}, SpPost K cl Y.io vs H fp frn Q E (do return (t, ← outsOf Y.io ρ)) → ∀ (v : V) (σ : St) (H' : Hp) (fr fq : List Addr), New K ⟨hide H fp, frn, ioV Y.io vs, Y.x.N.length, cl.T⟩ ρ σ H' fq t v fr → Q v H' := fun {t ρ} q v σ H' fr fq n => by
      cases eo : outsOf Y.io ρ with
      | no => rw [eo] at q; exact q.elim
      | ex _ _ =>
        exfalso
        have : ∀ (io : List Nat) (ρ : Rho), NoEx (outsOf io ρ) := by
          intro io
          induction io with
          | nil => exact fun _ => nx_ok _
          | cons i io ih =>
            intro ρ
            show NoEx (match ρ[i]? with
              | some (some t) => (do return t :: (← outsOf io ρ) : R (List T))
              | _ => .no)
            split
            · exact nx_bind (ih _) fun _ => nx_ok _
            · exact nx_no
        exact this _ _ _ _ eo
      | ok outs =>
        rw [eo] at q
        obtain ⟨fo, oo, so⟩ := outs_own n.os eo nd (io2 n.sr.io)
        have kn : ∀ {a : Addr}, hide H fp a = none → H a = none ∨ a ∈ fp := fun {a} z => by
          by_cases c : a ∈ fp
          · exact .inr c
          · rw [hide_out c] at z
            exact .inl z
        have less : ∀ a ∈ fr ++ fo ++ frn, a ∈ fr ++ (fq ++ frn) := fun a ha => by
          rcases List.mem_append.mp ha with z | z
          · rcases List.mem_append.mp z with z | z
            · exact List.mem_append_left _ z
            · exact List.mem_append_right _ (List.mem_append_left _ (so a z))
          · exact List.mem_append_right _ (List.mem_append_right _ z)
        refine (show ∀ v H' fr fo, ExtB fp H H' → (∀ a ∈ fr ++ fo, H a = none ∨ a ∈ fp) → (∀ a ∈ fr, a ∉ fo) → Own K H' (fr ++ fo ++ frn) t v fr → Owns K H' (fr ++ fo ++ frn) outs (pick Y.io vs) fo → Q v H' from q) v H' fr fo
          ⟨fun a o e na => n.sr.kp a o (by show hide H fp a = some o; rw [hide_out na]; exact e), fun t => n.sr.kp.tab (Tabs.hide o.lists t)⟩ (fun a ha => ?_) (fun a ha z => n.np a ha (so a z)) (n.ow.keep (keep_less less)) ?_
        · rcases List.mem_append.mp ha with z | z
          · exact kn (n.nk a z)
          · exact kn (n.sr.nk a (so a z))
        · rw [pick_eq lt']
          exact oo.keep (keep_less less)
    cases er : S.runs G b (initR Y.x.N.length ts) with
    | nx ρ =>
      rw [er] at post
      exact fun σ H' ⟨fq, sr⟩ => fin post .non σ H' [] fq (New.none sr)
    | rt t ρ =>
      rw [er] at post
      exact fun v σ H' fr fq n => fin post v σ H' fr fq n
    | ex c fs ρ =>
      rw [er] at post
      exact fun σ H' d ⟨fq, sr⟩ x => (show ∀ H' d, ExtB fp H H' → ExR K cl H' frn c fs d → E (.ref (cl.ca c)) (some d) H' from post) H' d ⟨fun a o e na => sr.kp a o (by show hide H fp a = some o; rw [hide_out na]; exact e), fun t => sr.kp.tab (Tabs.hide o.lists t)⟩ x
    | bk ρ => rw [er] at post; exact post.elim
    | ct ρ => rw [er] at post; exact post.elim
    | no => rw [er] at post; exact post.elim
end
end Gn

set_option Elab.async false
set_option linter.all false
set_option maxRecDepth 100000
set_option maxHeartbeats 4000000
namespace Gn
open PySem PySem.Spec PyProof.Rows L2
variable [Tbls]

/-! ### own exception classes -/
def oexB (K : PySem.W.Frag) (C : Addr) : Bool := (match K.lookup C with
  | some ⟨.type "type", _, .cls cd, sl⟩ => (match cd.mro, sl.toList with
    | .ref C' :: bm, [_, _, _, _, some (.builtin n), _] => C' == C && n == "ValueError.__new__" && !cd.hasDel && cd.hasDict && PySem.HandSPX.refsVE bm
    | _, _ => false)
  | _ => false) && (decide (PySem.W.findIn K (.ref C) "__setattr__" = some (some (.builtin "object.__setattr__"))) && (decide (PySem.W.subIn K (.ref C) (.type "BaseException") = some true) && (decide (PySem.W.typeIn K (.ref C) = some (.type "type")) && PySem.W.keepIn K (.ref C))))
theorem oexB_ok {K : PySem.W.Frag} {C : Addr} (h : oexB K C = true) : OexC K C := by
  obtain ⟨q, h⟩ := b2 h
  obtain ⟨h1, h⟩ := b2 h
  obtain ⟨h2, h⟩ := b2 h
  obtain ⟨h3, h4⟩ := b2 h
  refine ⟨?_, of_decide_eq_true h1, of_decide_eq_true h2, of_decide_eq_true h3, h4⟩
  split at q
  · rename_i dd cd sl ho
    split at q
    · rename_i C' bm k0 k1 k2 k3 n k5 hm hs
      simp only [Bool.and_eq_true, beq_iff_eq, Bool.not_eq_true'] at q
      obtain ⟨⟨⟨⟨rfl, rfl⟩, hdel⟩, hd1⟩, hr⟩ := q
      obtain ⟨nm, bs, mro, ns, qn, hd, sn, sub, ab, col, del⟩ := cd
      dsimp only at hm hdel hd1
      subst hm hdel hd1
      have hsl : sl = #[k0, k1, k2, k3, some (.builtin "ValueError.__new__"), k5] := by
        obtain ⟨l⟩ := sl
        simp only at hs
        rw [hs]
      subst hsl
      exact ⟨nm, qn, ns, bs, bm, sn, sub, ab, col, dd, k0, k1, k2, k3, k5, ho, hr⟩
    · cases q
  · cases q
/-! ### their __init__: every field is given its parameter -/
def initB (sc : Scope) (self : Str) : List Str → List Str → List Stmt → Bool
  | [], [], [] => true
  | f :: fs, a :: as, .Assign [.Attribute (.Name s _) g _] (.Name y _) _ :: r => decide (s = self) && (decide (g = f) && (decide (y = a) && (visB sc s && (okName s && (visB sc y && (okName y && initB sc self fs as r))))))
  | _, _, _ => false
def tInit (K : PySem.W.Frag) : List Str → Nat → TS
  | [], _ => tNext
  | f :: fs, j => tSeq (tOst K f (tVar 0) (tVar j)) (tInit K fs (j + 1))
theorem init_run {X : Cx} {sc : Scope} {self : Str} (ag : Agr sc X.env.scope) (h0 : X.N[0]? = some self) : ∀ {fs as : List Str} {body : List Stmt} {j : Nat}, (∀ i a, as[i]? = some a → X.N[j + i]? = some a) → initB sc self fs as body = true → PSs X body (tInit X.K fs j)
  | [], [], [], _, _, _ => pss_nil
  | [], [], _ :: _, _, _, h => cfalse h
  | [], _ :: _, _, _, _, h => cfalse h
  | _ :: _, [], body, _, _, h => cfalse (by cases body <;> exact h)
  | _ :: _, _ :: _, [], _, _, h => cfalse h
  | f :: fs, a :: as, st :: r, j, hN, h => by
    cases st with
    | Assign tgs e pos =>
      match tgs, h with
      | [], h => exact cfalse h
      | [tg], h =>
        cases tg with
        | Attribute o g ap =>
          cases o with
          | Name s sp =>
            cases e with
            | Name y yp =>
              obtain ⟨h1, q1⟩ := b2 (show (decide (s = self) && (decide (g = f) && (decide (y = a) && (visB sc s && (okName s && (visB sc y && (okName y && initB sc self fs as r))))))) = true from h)
              obtain ⟨h2, q2⟩ := b2 q1
              obtain ⟨h3, q3⟩ := b2 q2
              obtain ⟨h4, q4⟩ := b2 q3
              obtain ⟨h5, q5⟩ := b2 q4
              obtain ⟨h6, q6⟩ := b2 q5
              obtain ⟨h7, q7⟩ := b2 q6
              have e1 := of_decide_eq_true h1
              have e2 := of_decide_eq_true h2
              have e3 := of_decide_eq_true h3
              subst e1 e2 e3
              obtain ⟨k1, k2, _⟩ := okN h5
              obtain ⟨l1, l2, _⟩ := okN h7
              exact pss_cons (ps_ost (pe_var h0 (vis_of ag h4) k1 k2) (pe_var (i := j) (by simpa using hN 0 y rfl) (vis_of ag h6) l1 l2)) (init_run ag h0 (fun i b e => by
                have := hN (i + 1) b (by simpa using e)
                rwa [show j + (i + 1) = j + 1 + i by omega] at this) q7)
            | _ => exact cfalse h
          | _ => exact cfalse h
        | _ => exact cfalse h
      | tg :: _ :: _, h => exact cfalse (by
          cases tg with
          | Attribute o _ _ => cases o <;> cases e <;> exact h
          | _ => cases e <;> exact h)
    | _ => exact cfalse h
theorem init_more {K : PySem.W.Frag} {a d C : Addr} {σ : St} {E : Ends} (T : OexC K C) (h0 : σ[0]? = some (some (.ref a))) (nad : a ≠ d) : ∀ {fs : List Str} {ws : List V} {j : Nat} {done : List (Str × V)} {H : Hp}, ws.length = fs.length → (∀ i w, ws[i]? = some w → σ[j + i]? = some (some w)) →
    (∀ f ∈ fs, PySem.W.findIn K (.ref C) f = some none) → H a = some (exo a C (some d)) → H d = some (exd d done) → done.length + fs.length ≤ 900 →
    (∀ H', H' a = H a → H' d = some (exd d ((fs.zip ws).reverse ++ done)) → (∀ b, b ≠ d → H' b = H b) → E.nx σ H') → tInit K fs j E σ H
  | [], [], _, done, H, _, _, _, ea, ed, _, q => q H rfl (by simpa using ed) fun _ _ => rfl
  | [], _ :: _, _, _, _, hl, _, _, _, _, _, _ => by simp at hl
  | _ :: _, [], _, _, _, hl, _, _, _, _, _, _ => by simp at hl
  | f :: fs, w :: ws, j, done, H, hl, hw, hf, ea, ed, hz, q => by
    refine ⟨w, by simpa using hw 0 w rfl, .ref a, h0, a, C, rfl, T, hf f (by simp), .inr ⟨d, done, ea, ed, by simp at hz; omega, ?_⟩⟩
    refine init_more T h0 nad (by simpa using hl) (fun i x e => by
      have := hw (i + 1) x (by simpa using e)
      rwa [show j + (i + 1) = j + 1 + i by omega] at this) (fun g hg => hf g (by simp [hg])) (by rw [upd_ne nad]; exact ea) upd_same (by simp at hz ⊢; omega) fun H' e1 e2 e3 => ?_
    refine q H' (by rw [e1, upd_ne nad]) ?_ fun b hb => by rw [e3 b hb, upd_ne hb]
    rw [e2]
    simp
theorem init_all {K : PySem.W.Frag} {a C : Addr} {σ : St} {E : Ends} {H : Hp} {fs : List Str} {ws : List V} (T : OexC K C) (h0 : σ[0]? = some (some (.ref a))) (hl : ws.length = fs.length) (hw : ∀ i w, ws[i]? = some w → σ[1 + i]? = some (some w)) (hf : ∀ f ∈ fs, PySem.W.findIn K (.ref C) f = some none)
    (ne : fs ≠ []) (ea : H a = some (exo a C none)) (hz : fs.length ≤ 800) (q : ∀ H' d, H d = none → d ≠ a → H' a = some (exo a C (some d)) → H' d = some (exd d (fs.zip ws).reverse) → (∀ b, b ≠ a → b ≠ d → H' b = H b) → E.nx σ H') : tInit K fs 1 E σ H := by
  cases fs with
  | nil => exact absurd rfl ne
  | cons f fs =>
    cases ws with
    | nil => simp at hl
    | cons w ws =>
      refine ⟨w, by simpa using hw 0 w rfl, .ref a, h0, a, C, rfl, T, hf f (by simp), .inl ⟨ea, fun d hd nd => ?_⟩⟩
      refine init_more (d := d) (done := [(f, w)]) T h0 (Ne.symm nd) (by simpa using hl) (fun i x e => by
        have := hw (i + 1) x (by simpa using e)
        rwa [show 1 + (i + 1) = 1 + 1 + i by omega] at this) (fun g hg => hf g (by simp [hg])) upd_same (by rw [upd_ne nd, upd_same]) (by simp at hz ⊢; omega) fun H' e1 e2 e3 => ?_
      refine q H' d hd nd (by rw [e1, upd_same]) (by rw [e2]; simp) fun b n1 n2 => by rw [e3 b n2, upd_ne n1, upd_ne n2]
def spI (C : Addr) (fs : List Str) : Sp := fun vs H Q _ => ∃ a ws, vs = .ref a :: ws ∧ ws.length = fs.length ∧ H a = some (exo a C none) ∧
  ∀ H' d, H d = none → d ≠ a → H' a = some (exo a C (some d)) → H' d = some (exd d (fs.zip ws).reverse) → (∀ b, b ≠ a → b ≠ d → H' b = H b) → Q .non H'
section
variable {P : Program} {w : World} {K : PySem.W.Frag} {mg : Str → Option Value} {base : Heap} {x qual : Str} {params : Arguments} {body : List Stmt} {scope : Scope} {f : Addr} {fd : FuncData} {fs : List Str} {self : Str} {as : List Str} {C : Addr}
theorem init_ok (F : FunD K x qual params body scope [] [] f fd) (Sc : FnScope (self :: as) (self :: as) scope) (hb : initB scope self fs as body = true) (la : as.length = fs.length) (T : OexC K C) (hf : ∀ f ∈ fs, PySem.W.findIn K (.ref C) f = some none) (ne : fs ≠ []) (hz : fs.length ≤ 800) :
    FnOk P w K mg base (CX P w) 1 f fd (self :: as) (spI C fs) := by
  refine F.ok Sc (fun vs H Q E ⟨a, ws, e, l, _⟩ => by rw [e]; simp [l, la]) fun cdv A outer s H vs Q E hr hsp => ⟨_, init_run (X := cxOf (CX P w) P w K mg base (self :: as) qual scope f cdv A outer s H E) (Agr.refl scope) rfl (j := 1) (fun i a e => ?_) hb, ?_⟩
  · show (self :: as)[1 + i]? = some a
    rw [Nat.add_comm]
    simpa using e
  · obtain ⟨a, ws, rfl, l, ea, q⟩ := hsp
    refine init_all T rfl l (fun i v e => ?_) hf ne ea hz fun H' d h1 h2 h3 h4 h5 => q H' d h1 h2 h3 h4 h5
    have li := (List.getElem?_eq_some_iff.mp e).1
    show (List.map some (V.ref a :: ws) ++ _)[1 + i]? = _
    rw [Nat.add_comm, List.getElem?_append_left (by simpa using li)]
    simp [e]
/-- what is known of a class -/
structure ExF (K : PySem.W.Frag) (mg : Str → Option Value) (x : Str) (C : Addr) (fs : List Str) : Prop where
  T : OexC K C
  mgx : mg x = some (.ref C)
  at_ : ∀ f ∈ fs, PySem.W.findIn K (.ref C) f = some none
  ini : ∃ fI, PySem.W.findIn K (.ref C) "__init__" = some (some (.ref fI)) ∧ PySem.W.typeIn K (.ref fI) = some (.type "function") ∧ ∃ nm qual params body scope fd self as, FunD K nm qual params body scope [] [] fI fd ∧ FnScope (self :: as) (self :: as) scope ∧ initB scope self fs as body = true ∧ as.length = fs.length ∧ Binds K fd (self :: as) []
  ne : fs ≠ []
  sz : fs.length ≤ 800
theorem ExF.g {X : Cx} {cl : Cl} {W : WX} {c : Nat} {n : Nat} (h : ExF X.K X.mg x (cl.ca c) (cl.cf c)) (hn : (cl.cf c).length = n) (tk : Takes X W) (hr : Room 2 X.A) : ExG X cl c x n := by
  refine ⟨hn, fun e es ta p pos hg hd mono hst hsn ha => ?_⟩
  obtain ⟨fI, i1, i2, nm, qual, params, body, scope, fd, self, as, F, Sc, hb, la, bi⟩ := h.ini
  have F1 : FnOk X.prog X.w X.K X.mg X.base (CX X.prog X.w) 1 fI fd (self :: as) (spI (cl.ca c) (cl.cf c)) := init_ok F Sc hb la h.T h.at_ h.ne h.sz
  have mk := pmk_oex (p := p) (pos := pos) (dvs := []) h.T i1 i2 F1 hr bi .nil (fun pins σ H s e s' I z => tk e s' (XE.of_call I (fun _ _ _ k => k.elim) z)) hg h.mgx ha hd hst hsn
  refine fun pins s σ H Q I q => mk pins s σ H Q I ?_
  refine mono σ H _ _ (fun vs H1 ⟨l, q⟩ => ⟨by have := h.sz; omega, fun a ea => ?_⟩) q
  refine ⟨a, vs, by simp, l, upd_same, fun H' d h1 h2 h3 h4 h5 => ⟨rfl, d, _, h3, h4, ?_, q _ d (Ext.of fun b o eb => ?_) upd_same⟩⟩
  · rw [upd_ne h2] at h1
    exact h1
  · have nd : b ≠ d := fun z => by
      rw [z] at eb
      rw [upd_ne h2] at h1
      rw [h1] at eb
      cases eb
    have na : b ≠ a := fun z => by
      rw [z, ea] at eb
      cases eb
    rw [upd_ne nd, del_ne na, h5 b na nd, upd_ne na]
    exact eb
end
end Gn

set_option Elab.async false
set_option linter.all false
set_option maxRecDepth 100000
set_option maxHeartbeats 4000000
namespace Gn
open PySem PySem.Spec PyProof.Rows L2
variable [Tbls]

/-! ### a def called where an exception is handled, with the exception -/
def S.bodyx (G : Gam) (n : Nat) (b : List S) : R T := match S.runs G b (List.replicate n none) with
  | .nx _ => .ok (.fz .none)
  | .rt t _ => .ok t
  | _ => .no
/-- .. with data -/
def S.bodyd (G : Gam) (n : Nat) (b : List S) (d : D) : R T := match S.runs G b (some (.fz d) :: List.replicate (n - 1) none) with
  | .nx _ => .ok (.fz .none)
  | .rt t _ => .ok t
  | _ => .no
theorem bodyd_nx (G : Gam) (n : Nat) (b : List S) (d : D) : NoEx (S.bodyd G n b d) := by
  unfold S.bodyd
  split <;> first | exact nx_ok _ | exact nx_no
theorem hotEnds {K : PySem.W.Frag} {cl : Cl} {H : Hp} {hid : List Addr} {Q : VK} {b : Bs} {r : Res} (hk : b.kept = H) (hf : b.frn = hid)
    (q : POut K cl [] H hid (fun _ _ _ _ => False) (O1 K hid) (match r with
      | .nx _ => .ok (.fz .none)
      | .rt t _ => .ok t
      | _ => (.no : R T)) Q) : SOut K cl b W0 { nx := fun _ H' => Q .non H', rt := Q } r := by
  have fin : ∀ {t : T}, Out K H hid t Q → ∀ {ρ : Rho} (v : V) (σ : St) (H' : Hp) (f fp : List Addr), New K b ρ σ H' fp t v f → Q v H' := fun {t} z {ρ} v σ H' f fp n => by
    refine z v H' f (by rw [← hk]; exact n.sr.kp) (fun a ha => by rw [← hk]; exact n.nk a ha) (n.ow.keep (keep_less fun a ha => ?_))
    rcases List.mem_append.mp ha with z | z
    · exact List.mem_append_left _ z
    · exact List.mem_append_right _ (List.mem_append_right _ (by rw [hf]; exact z))
  cases r with
  | nx ρ => exact fun σ H' ⟨fp, sr⟩ => fin (show Out K H hid (.fz .none) Q from q) .non σ H' [] fp (New.none sr)
  | rt t ρ => exact fun v σ H' f fp n => fin (show Out K H hid t Q from q) v σ H' f fp n
  | ex _ _ _ => exact q.elim
  | bk _ => exact q.elim
  | ct _ => exact q.elim
  | no => exact q.elim
section
variable {P : Program} {w : World} {K : PySem.W.Frag} {mg : Str → Option Value} {base : Heap} {x qual : Str} {params : Arguments} {body : List Stmt} {scope : Scope} {f : Addr} {fd : FuncData} {Y : Sy} {G : Nat → List D → Gam} {cl : Cl} {b : List S} {ps : List Str} {k : Nat}
theorem fx_ok {cok : Nat → Bool} (F : FunD K x qual params body scope [] [] f fd) (Sc : FnScope Y.x.N ps scope) (h1 : ps.length = 1) (hc : S.chks Y b scope body = true) (hio : Y.io = [0]) (hG : ∀ c fs, (G c fs).hx = some (c, fs))
    (ctx : ∀ (cdv : Value) (A : Around) (outer : List Env) (s : Shared) (H : Hp) (p : Addr × Obj) (c : Nat) (fs : List D) (dd : Addr), cok c = true → L2H.RoomH k (A.deeper (envOfC qual scope s.heap.objs.size f cdv)) → Zc (.ref (cl.ca c)) (some dd) p.2 → (∃ vs, p.2.data = .fields vs) →
      SX Y (G c fs) (cl.at p.1 dd (some 0)) scope (L2H.cxH (CX P w) P w K mg base Y.x.N qual scope f cdv A outer s H (fun _ _ _ => False) p) W0) :
    FnX P w K mg base cl cok (k + 1) f fd ps (fun c fs => S.bodyx (G c fs) Y.x.N.length b) := by
  obtain ⟨oc, od, dV, kV, doc, pm, an, cdv, ct, osl, rfl, lk, hcd, _, _⟩ := F.ex
  refine ⟨h1, fun A outer s H args Q p c fs dd frn hco hr hpin e0 hb hz hd tb ho xr q => ?_⟩
  have KX : K.In s.heap := e0.mod.kin.keeps fun a o e => (e0.bs a o e).1
  have lim : s.heap.NoLimit := e0.mod.nolimit.keeps fun a o e => (e0.bs a o e).1
  obtain ⟨pn, rfl⟩ : ∃ n, ps = [n] := by
    cases ps with
    | nil => cases h1
    | cons n r =>
      cases r with
      | nil => exact ⟨n, rfl⟩
      | cons _ _ => cases h1
  have kinds : ∀ y ∈ [pn].zip [Value.ref p.1], scope.names.lookup y.1 = some .local ∨ (scope.names.lookup y.1 = some .cell ∧ ((cellsFrom (s.heap.objs.size + 1) scope.names []).lookup y.1).isSome = true) := fun ⟨n, v⟩ hy => by
    rcases Sc.par n (List.of_mem_zip hy).1 with q | q
    · exact .inl q
    · exact .inr ⟨q, PySem.W.cellsFrom_some _ _ _ (.inl q)⟩
  refine codeAny_call_function hr.depth (KX _ _ lk) rfl Sc.co Sc.gen rfl (PySem.W.codeRec_of KX hcd) (hb _ _ _ _ ?_)
  refine wpAny_newFunctionEnv_cells Sc.kind kinds fun env he s1 xin => ?_
  subst he
  refine ⟨lim.keeps xin.toInCall.keep, codeAny_func ?_⟩
  have g := ctx cdv A outer s H p c fs dd hco (hr.deeper _) hz hd
  have hv : Vals [V.ref p.1] [Value.ref p.1] := .cons rfl .nil
  have I : Inv (L2H.cxH (CX P w) P w K mg base Y.x.N qual scope f cdv A outer s H (fun _ _ _ => False) p) [] (L2.start Y.x.N [V.ref p.1]) H s1 := L2H.inv_startH Sc hpin e0 rfl hv xin
  have nl : 1 ≤ Y.x.N.length := by
    have := congrArg List.length Sc.pre
    rw [List.length_take] at this
    simp at this
    omega
  obtain ⟨vs, x1, x2⟩ := xr
  have es : L2.start Y.x.N [V.ref p.1] = some (V.ref p.1) :: List.replicate (Y.x.N.length - 1) none := rfl
  have er : List.replicate Y.x.N.length (none : Option T) = none :: List.replicate (Y.x.N.length - 1) none := by
    obtain ⟨n, hn⟩ : ∃ n, Y.x.N.length = n + 1 := ⟨Y.x.N.length - 1, by omega⟩
    rw [hn]
    rfl
  have on : ∀ n, OwnS K H ([] ++ frn) (List.replicate n none) (List.replicate n none) [] := fun n => by
    induction n with
    | zero => exact .nil
    | succ n ih => exact .non _ ih
  have start : tSs K Y (G c fs) (cl.at p.1 dd (some 0)) W0 b { nx := fun _ H' => Q .non H', rt := Q } (L2.start Y.x.N [V.ref p.1]) H := by
    refine ⟨⟨H, frn, [(0, .ref p.1)], Y.x.N.length, cl.T⟩, List.replicate Y.x.N.length none, by rw [hio]; rfl, ⟨rfl, ⟨rfl, fun c' fs' e => ?_⟩⟩, ⟨[], Ext.refl H, (fun _ z => nomatch z), (fun _ z => nomatch z), ho, ?_, fun y hy => ?_, ?_, tb⟩, hotEnds rfl rfl q⟩
    · rw [hG] at e
      cases e
      exact ⟨List.mem_cons_self, vs, x1, x2⟩
    · rw [es, er]
      exact .non _ (on _)
    · have : y = (0, V.ref p.1) := by simpa using hy
      rw [this, es]
      rfl
    · rw [es]
      simp
      omega
  refine wpAny_mono ((S.sds b g hc).run [] s1 _ H _ I start) (fun fl s' hs => ?_) fun e s' hs => hs
  have fin : ∀ {σ' : St} {H' : Hp} {v : V} {u : Value}, Inv (L2H.cxH (CX P w) P w K mg base Y.x.N qual scope f cdv A outer s H (fun _ _ _ => False) p) [] σ' H' s' → RelV v u → Q v H' → CE outer P w H s Q u s' :=
    fun {σ' H' v u} J rv q => ⟨v, H', J.os, J.bare, J.base, J.hok, rv, q⟩
  cases fl with
  | ret u =>
    obtain ⟨v, σ', H', J, rv, q⟩ := hs
    exact fin J rv q
  | next =>
    obtain ⟨σ', H', J, q⟩ := hs
    exact fin (v := V.non) (u := Value.none) J rfl q
  | brk =>
    obtain ⟨_, _, _, q⟩ := hs
    exact False.elim q
  | cont =>
    obtain ⟨_, _, _, q⟩ := hs
    exact False.elim q
theorem fxd_ok {G : Gam} (F : FunD K x qual params body scope [] [] f fd) (Sc : FnScope Y.x.N ps scope) (h1 : ps.length = 1) (hc : S.chks Y b scope body = true) (hio : Y.io = []) (hG : G.hx = none)
    (ctx : ∀ (cdv : Value) (A : Around) (outer : List Env) (s : Shared) (H : Hp) (p : Addr × Obj), L2H.RoomH k (A.deeper (envOfC qual scope s.heap.objs.size f cdv)) →
      SX Y G cl scope (L2H.cxH (CX P w) P w K mg base Y.x.N qual scope f cdv A outer s H (fun _ _ _ => False) p) W0) :
    FnXd P w K mg base (k + 1) f fd ps (fun d => S.bodyd G Y.x.N.length b d) := by
  obtain ⟨oc, od, dV, kV, doc, pm, an, cdv, ct, osl, rfl, lk, hcd, _, _⟩ := F.ex
  refine ⟨h1, fun A outer s H args Q p v u d frn cl' hr hpin e0 hb ru tb ho rd q => ?_⟩
  have KX : K.In s.heap := e0.mod.kin.keeps fun a o e => (e0.bs a o e).1
  have lim : s.heap.NoLimit := e0.mod.nolimit.keeps fun a o e => (e0.bs a o e).1
  obtain ⟨pn, rfl⟩ : ∃ n, ps = [n] := by
    cases ps with
    | nil => cases h1
    | cons n r =>
      cases r with
      | nil => exact ⟨n, rfl⟩
      | cons _ _ => cases h1
  have kinds : ∀ y ∈ [pn].zip [u], scope.names.lookup y.1 = some .local ∨ (scope.names.lookup y.1 = some .cell ∧ ((cellsFrom (s.heap.objs.size + 1) scope.names []).lookup y.1).isSome = true) := fun ⟨n, v⟩ hy => by
    rcases Sc.par n (List.of_mem_zip hy).1 with q | q
    · exact .inl q
    · exact .inr ⟨q, PySem.W.cellsFrom_some _ _ _ (.inl q)⟩
  refine codeAny_call_function hr.depth (KX _ _ lk) rfl Sc.co Sc.gen rfl (PySem.W.codeRec_of KX hcd) (hb _ _ _ _ ?_)
  refine wpAny_newFunctionEnv_cells Sc.kind kinds fun env he s1 xin => ?_
  subst he
  refine ⟨lim.keeps xin.toInCall.keep, codeAny_func ?_⟩
  have g := ctx cdv A outer s H p (hr.deeper _)
  have hv : Vals [v] [u] := .cons ru .nil
  have I : Inv (L2H.cxH (CX P w) P w K mg base Y.x.N qual scope f cdv A outer s H (fun _ _ _ => False) p) [] (L2.start Y.x.N [v]) H s1 := L2H.inv_startH Sc hpin e0 rfl hv xin
  have nl : 1 ≤ Y.x.N.length := by
    have := congrArg List.length Sc.pre
    rw [List.length_take] at this
    simp at this
    omega
  have es : L2.start Y.x.N [v] = some v :: List.replicate (Y.x.N.length - 1) none := rfl
  have on : ∀ n, OwnS K H ([] ++ frn) (List.replicate n none) (List.replicate n none) [] := fun n => by
    induction n with
    | zero => exact .nil
    | succ n ih => exact .non _ ih
  have q2 : POut K cl [] H frn (fun _ _ _ _ => False) (O1 K frn) (S.bodyd G Y.x.N.length b d) Q := by
    cases e : S.bodyd G Y.x.N.length b d with
    | ok t => rw [e] at q; exact q
    | ex _ _ => rw [e] at q; exact fun H' d s x => (q : ∀ H' d, _ → _ → False) H' d s (by exact absurd e (bodyd_nx _ _ _ _ _ _)) |>.elim
    | no => rw [e] at q; exact q
  have start : tSs K Y G cl W0 b { nx := fun _ H' => Q .non H', rt := Q } (L2.start Y.x.N [v]) H := by
    refine ⟨⟨H, frn, [], Y.x.N.length, cl.T⟩, some (.fz d) :: List.replicate (Y.x.N.length - 1) none, by rw [hio]; rfl, ⟨rfl, ⟨rfl, fun c' fs' e => by rw [hG] at e; cases e⟩⟩, ⟨[], Ext.refl H, (fun _ z => nomatch z), (fun _ z => nomatch z), ho, ?_, (fun _ z => nomatch z), ?_, tb⟩, hotEnds rfl rfl q2⟩
    · rw [es]
      exact .cons (fp := []) (fq := []) (.fz rd) (on _) fun _ z => nomatch z
    · rw [es]
      simp
      omega
  refine wpAny_mono ((S.sds b g hc).run [] s1 _ H _ I start) (fun fl s' hs => ?_) fun e s' hs => hs
  have fin : ∀ {σ' : St} {H' : Hp} {v' : V} {u' : Value}, Inv (L2H.cxH (CX P w) P w K mg base Y.x.N qual scope f cdv A outer s H (fun _ _ _ => False) p) [] σ' H' s' → RelV v' u' → Q v' H' → CE outer P w H s Q u' s' :=
    fun {σ' H' v' u'} J rv q => ⟨v', H', J.os, J.bare, J.base, J.hok, rv, q⟩
  cases fl with
  | ret u =>
    obtain ⟨v, σ', H', J, rv, q⟩ := hs
    exact fin J rv q
  | next =>
    obtain ⟨σ', H', J, q⟩ := hs
    exact fin (v' := V.non) (u' := Value.none) J rfl q
  | brk =>
    obtain ⟨_, _, _, q⟩ := hs
    exact False.elim q
  | cont =>
    obtain ⟨_, _, _, q⟩ := hs
    exact False.elim q
end
end Gn

set_option Elab.async false
set_option linter.all false
set_option maxRecDepth 100000
set_option maxHeartbeats 4000000
namespace Gn
open PySem PySem.Spec PyProof.Rows L2
variable [Tbls]

/-! ### a program's table -/
structure Fd where
  at_ : Nat
  name : Str
  ps : List Str
  N : List Str
  io : List Nat
  body : List S
structure Ed where
  at_ : Nat
  name : Str
  qual : Str
  self : Str
  as : List Str
  fs : List Str
/-- cns: the classes that clauses and isinstance name (own ones, or built-in ones); sub: which own class is one of them; xfs: the defs that are called with a handled exception -/
structure Tab where
  fns : List Fd
  consts : List (Str × D)
  bt : List Str
  exs : List Ed
  cns : List (Str × Bool) := []
  sub : List (List Bool) := []
  xfs : List Fd := []
  hfs : List Fd := []
  lms : List Str := []
def Tab.sx (t : Tab) (d : Fd) : Sx := ⟨d.N, t.consts.map (·.1), t.fns.map (·.name), t.fns.map (·.io), t.bt, false, none, t.cns.map (·.1), t.xfs.map (·.name), t.hfs.map (·.name), t.lms.contains d.name⟩
def Tab.sy (t : Tab) (d : Fd) : Sy := ⟨t.sx d, d.io, t.exs.map fun e => (e.name, e.fs.length)⟩
def Tab.syx (t : Tab) (d : Fd) : Sy := ⟨⟨d.N, t.consts.map (·.1), t.fns.map (·.name), t.fns.map (·.io), t.bt, true, some 0, t.cns.map (·.1), [], [], false⟩, [0], t.exs.map fun e => (e.name, e.fs.length)⟩
def Tab.syd (t : Tab) (d : Fd) : Sy := ⟨⟨d.N, t.consts.map (·.1), t.fns.map (·.name), t.fns.map (·.io), t.bt, true, none, t.cns.map (·.1), [], [], false⟩, [], t.exs.map fun e => (e.name, e.fs.length)⟩
def Tab.isub (t : Tab) (c k : Nat) : Bool := ((t.sub[c]?).getD [])[k]?.getD false
def Tab.cok (t : Tab) (c : Nat) : Bool := !t.cns.isEmpty && decide (c < t.exs.length)
def fieldIx (fs : List Str) (f : Str) : Option Nat := fs.findIdx? fun g => decide (g = f)
def Tab.xf (t : Tab) (c : Nat) (f : Str) : Option Nat := match t.exs[c]? with
  | some e => fieldIx e.fs f
  | none => none
def Tab.gamx (t : Tab) (c : Nat) (fs : List D) : Gam := ⟨t.consts.map (·.2), fun _ _ => .no, t.isub, false, [0], some (c, fs), t.cok, t.xf, fun _ _ _ => .no, fun _ _ => .no⟩
def Tab.gamd (t : Tab) : Gam := ⟨t.consts.map (·.2), fun _ _ => .no, t.isub, false, [], none, t.cok, t.xf, fun _ _ _ => .no, fun _ _ => .no⟩
def Tab.fh (t : Tab) (k : Nat) (x : D) : R T := match t.hfs[k]? with
  | some d => S.bodyd t.gamd d.N.length d.body x
  | none => .no
def Tab.fx (t : Tab) (k c : Nat) (fs : List D) : R T := match t.xfs[k]? with
  | some d => S.bodyx (t.gamx c fs) d.N.length d.body
  | none => .no
def Tab.gam (t : Tab) (call : Nat → List T → R (T × List T)) (d : Fd) : Gam := ⟨t.consts.map (·.2), call, t.isub, true, d.io, none, t.cok, t.xf, t.fx, t.fh⟩
def Tab.call (t : Tab) : Nat → Nat → List T → R (T × List T)
  | 0, _, _ => .no
  | k + 1, f, ts => match t.fns[f]? with
    | some d => S.body (t.gam (t.call k) d) d.N.length d.ps.length d.body ts
    | none => .no
def edOf (t : Tab) (c : Nat) : Ed := t.exs[c]?.getD ⟨0, Str.empty, Str.empty, Str.empty, [], []⟩
def Tab.cl (K : PySem.W.Frag) (t : Tab) : Cl := { ca := fun c => He.ga K (edOf t c).name, cf := fun c => (edOf t c).fs }
/-! ### the tables of the defs that hold a lambda -/
def codeOf (K : PySem.W.Frag) (x : Str) : Option (Addr × Addr) := match K.lookup (He.ga K x) with
  | some ⟨_, _, .func fd, _⟩ => (match fd.code with
    | .ref c => (match K.lookup c with
      | some ⟨_, _, .fields vs, _⟩ => (match (vs[11]? : Option Value) with
        | some (.ref P) => some (c, P)
        | _ => none)
      | _ => none)
    | _ => none)
  | _ => none
def lamQ (x : Str) : Str := (x ++ ".<locals>.") ++ "<lambda>"
def Tab.cts (t : Tab) (K : PySem.W.Frag) : List (Addr × Addr) := t.lms.filterMap (codeOf K)
def Tab.tb (t : Tab) (K : PySem.W.Frag) : List (Addr × Str) := t.lms.filterMap fun x => (codeOf K x).map fun p => (p.2, lamQ x)
def lmOne (K : PySem.W.Frag) (x : Str) : Bool := match codeOf K x with
  | some (c, P) => PySem.W.codeHdIn K c P && ((K.lookup P).isNone && decide (mainGlobals ≠ P))
  | none => false
def Tab.lmB (t : Tab) (K : PySem.W.Frag) : Bool := t.lms.all (lmOne K) && t.lms.all fun x => t.lms.all fun y => decide (x = y) || decide ((codeOf K x).map Prod.snd ≠ (codeOf K y).map Prod.snd)
theorem codeOf_code {K : PySem.W.Frag} {x : Str} {c P : Addr} {oc : Value} {od : Option Addr} {fd : FuncData} {osl : Array (Option Value)} (h : codeOf K x = some (c, P)) (e : K.lookup (He.ga K x) = some ⟨oc, od, .func fd, osl⟩) : fd.code = .ref c := by
  unfold codeOf at h
  rw [e] at h
  dsimp only at h
  split at h
  · rename_i c' ec
    split at h
    · split at h
      · cases h
        exact ec
      · cases h
    · cases h
  · cases h
theorem lmOne_ok {K : PySem.W.Frag} {x : Str} (h : lmOne K x = true) : ∃ c P, codeOf K x = some (c, P) ∧ PySem.W.codeHdIn K c P = true ∧ K.lookup P = none ∧ mainGlobals ≠ P := by
  unfold lmOne at h
  split at h
  · rename_i c P e
    obtain ⟨h1, h⟩ := b2 h
    obtain ⟨h2, h3⟩ := b2 h
    exact ⟨c, P, e, h1, by simpa using h2, of_decide_eq_true h3⟩
  · cases h
theorem Tab.tb_uniq {t : Tab} {K : PySem.W.Frag} (h : t.lmB K = true) {x : Str} {c P : Addr} (hx : x ∈ t.lms) (e : codeOf K x = some (c, P)) : (P, lamQ x) ∈ t.tb K ∧ ∀ p ∈ t.tb K, p.1 = P → p.2 = lamQ x := by
  obtain ⟨_, h2⟩ := b2 h
  refine ⟨List.mem_filterMap.mpr ⟨x, hx, by rw [e]; rfl⟩, fun p hp ep => ?_⟩
  obtain ⟨y, hy, ey⟩ := List.mem_filterMap.mp hp
  cases ec : codeOf K y with
  | none => rw [ec] at ey; cases ey
  | some z =>
    rw [ec] at ey
    cases ey
    have q := List.all_eq_true.mp (List.all_eq_true.mp h2 x hx) y hy
    rcases Bool.or_eq_true_iff.mp q with w | w
    · rw [of_decide_eq_true w]
    · have w := of_decide_eq_true w
      rw [e, ec] at w
      exact absurd (congrArg some (show P = z.2 from ep.symm)) w
/-! ### the written side -/
def plainArgs (a : Arguments) (ps : List Str) : Bool := a.posonlyargs.isEmpty && (a.vararg.isNone && (a.kwonlyargs.isEmpty && (a.kw_defaults.isEmpty && (a.kwarg.isNone && (a.defaults.isEmpty && decide (a.args.map (·.arg) = ps))))))
theorem isEmpty_nil {α : Type} {l : List α} (h : l.isEmpty = true) : l = [] := by cases l <;> first | rfl | cases h
theorem isNone_none {α : Type} {l : Option α} (h : l.isNone = true) : l = none := by cases l <;> first | rfl | cases h
theorem plainArgs_ok {a : Arguments} {ps : List Str} (h : plainArgs a ps = true) : a = ⟨[], a.args, none, [], [], none, []⟩ ∧ a.args.map (·.arg) = ps := by
  obtain ⟨h1, h⟩ := b2 h
  obtain ⟨h2, h⟩ := b2 h
  obtain ⟨h3, h⟩ := b2 h
  obtain ⟨h4, h⟩ := b2 h
  obtain ⟨h5, h⟩ := b2 h
  obtain ⟨h6, h7⟩ := b2 h
  obtain ⟨a1, a2, a3, a4, a5, a6, a7⟩ := a
  have e1 := isEmpty_nil h1
  have e2 := isNone_none h2
  have e3 := isEmpty_nil h3
  have e4 := isEmpty_nil h4
  have e5 := isNone_none h5
  have e6 := isEmpty_nil h6
  dsimp only at e1 e2 e3 e4 e5 e6
  subst e1 e2 e3 e4 e5 e6
  exact ⟨rfl, of_decide_eq_true h7⟩
theorem binds_of {K : PySem.W.Frag} {x qual : Str} {params : Arguments} {body : List Stmt} {scope : Scope} {f : Addr} {fd : FuncData} {ps : List Str} (F : FunD K x qual params body scope [] [] f fd) (h : plainArgs params ps = true) (nd : ps.Nodup) : Binds K fd ps [] := by
  obtain ⟨e1, e2⟩ := plainArgs_ok h
  refine F.bindsN fun kV doc pm an cdv ct us hl => ?_
  rw [← e2] at hl nd ⊢
  exact bind_plain e1 rfl nd (by simpa using hl)
def fdB (t : Tab) (top : Nat → Stmt) (d : Fd) : Bool := plainArgs (defArgs (top d.at_)) d.ps && (decide d.ps.Nodup && (C8.scC d.N d.ps (defScope (top d.at_)) && (decide d.io.Nodup && (d.io.all (fun i => decide (i < d.ps.length)) && S.chks (t.sy d) d.body (defScope (top d.at_)) (defBody (top d.at_))))))
def xdB (t : Tab) (top : Nat → Stmt) (d : Fd) : Bool := plainArgs (defArgs (top d.at_)) d.ps && (decide d.ps.Nodup && (C8.scC d.N d.ps (defScope (top d.at_)) && (decide (d.ps.length = 1) && S.chks (t.syx d) d.body (defScope (top d.at_)) (defBody (top d.at_)))))
def ydB (t : Tab) (top : Nat → Stmt) (d : Fd) : Bool := plainArgs (defArgs (top d.at_)) d.ps && (decide d.ps.Nodup && (C8.scC d.N d.ps (defScope (top d.at_)) && (decide (d.ps.length = 1) && S.chks (t.syd d) d.body (defScope (top d.at_)) (defBody (top d.at_)))))
def initOf (s : Stmt) : Stmt := (C8.clsBody s).getD 0 s
def edB (top : Nat → Stmt) (e : Ed) : Bool := plainArgs (defArgs (initOf (top e.at_))) (e.self :: e.as) && (decide (e.self :: e.as).Nodup && (C8.scC (e.self :: e.as) (e.self :: e.as) (defScope (initOf (top e.at_))) && (initB (defScope (initOf (top e.at_))) e.self e.fs e.as (defBody (initOf (top e.at_))) &&
  (decide (e.as.length = e.fs.length) && (!e.fs.isEmpty && decide (e.fs.length ≤ 800))))))
/-! ### the made side -/
mutual
def repV (K : PySem.W.Frag) : D → Value → Bool
  | .none, .none => true
  | .bool a, .bool b => a == b
  | .int i, .int j _ => decide (i = j)
  | .str x, .str y _ => decide (x = y) && (decide (x.length ≤ 100000) && x.cps.toList.all fun c => decide (c < 0x110000))
  | .tuple ds, .ref a => (match K.lookup a with
    | some ⟨.type c, _, .seq its _, _⟩ => decide (c = "tuple") && (decide (its.size ≤ sizeLine) && repVs K ds its.toList)
    | _ => false)
  | .list ds, .ref a => (match K.lookup a with
    | some ⟨.type c, none, .seq its _, _⟩ => decide (c = "list") && (decide (its.size ≤ sizeLine) && repVs K ds its.toList)
    | _ => false)
  | _, _ => false
def repVs (K : PySem.W.Frag) : List D → List Value → Bool
  | [], [] => true
  | d :: ds, u :: us => repV K d u && repVs K ds us
  | _, _ => false
end
theorem list_of {its : Array Value} {vs : List V} (h : Vals vs its.toList) : Vals vs its.toList := h
mutual
theorem repV_ok {K : PySem.W.Frag} : ∀ {d : D} {u : Value}, repV K d u = true → ∃ v, RelV v u ∧ ∀ H, Rep K H d v
  | .none, u, h => by
    cases u with
    | none => exact ⟨.non, rfl, fun _ => .non⟩
    | _ => exact cfalse h
  | .bool a, u, h => by
    cases u with
    | bool b =>
      have e : a = b := by simpa [repV] using h
      subst e
      exact ⟨.bl a, rfl, fun _ => .bl a⟩
    | _ => exact cfalse h
  | .int i, u, h => by
    cases u with
    | int j t =>
      have e : i = j := of_decide_eq_true h
      subst e
      exact ⟨.int i, ⟨t, rfl⟩, fun _ => .int i⟩
    | _ => exact cfalse h
  | .str x, u, h => by
    cases u with
    | str y t =>
      obtain ⟨h1, h2⟩ := b2 (show (decide (x = y) && (decide (x.length ≤ 100000) && x.cps.toList.all fun c => decide (c < 0x110000))) = true from h)
      obtain ⟨h3, h4⟩ := b2 h2
      have e := of_decide_eq_true h1
      subst e
      exact ⟨.str x, ⟨t, rfl⟩, fun _ => .str x ⟨by have := of_decide_eq_true h3; rw [sizeLine_eq]; omega, fun c hc => of_decide_eq_true (List.all_eq_true.mp h4 c hc)⟩⟩
    | _ => exact cfalse h
  | .tuple ds, u, h => by
    cases u with
    | ref a =>
      have h : (match K.lookup a with
        | some ⟨.type c, _, .seq its _, _⟩ => decide (c = "tuple") && (decide (its.size ≤ sizeLine) && repVs K ds its.toList)
        | _ => false) = true := h
      cases q : K.lookup a with
      | none => rw [q] at h; cases h
      | some o =>
        obtain ⟨oc, od, dt, osl⟩ := o
        rw [q] at h
        cases oc with
        | type c =>
          cases dt with
          | seq its n =>
            obtain ⟨h1, h2⟩ := b2 (show (decide (c = "tuple") && (decide (its.size ≤ sizeLine) && repVs K ds its.toList)) = true from h)
            obtain ⟨h3, h4⟩ := b2 h2
            obtain ⟨vs, r1, r2⟩ := repVs_ok h4
            exact ⟨.ref a, rfl, fun H => .tup (.inr ⟨_, its, n, q, congrArg Value.type (of_decide_eq_true h1), rfl, of_decide_eq_true h3, r1⟩) (r2 H)⟩
          | _ => cases h
        | _ => cases dt <;> cases h
    | _ => exact cfalse h
  | .list ds, u, h => by
    cases u with
    | ref a =>
      have h : (match K.lookup a with
        | some ⟨.type c, none, .seq its _, _⟩ => decide (c = "list") && (decide (its.size ≤ sizeLine) && repVs K ds its.toList)
        | _ => false) = true := h
      cases q : K.lookup a with
      | none => rw [q] at h; cases h
      | some o =>
        obtain ⟨oc, od, dt, osl⟩ := o
        rw [q] at h
        cases oc with
        | type c =>
          cases od with
          | none =>
            cases dt with
            | seq its n =>
              obtain ⟨h1, h2⟩ := b2 (show (decide (c = "list") && (decide (its.size ≤ sizeLine) && repVs K ds its.toList)) = true from h)
              obtain ⟨h3, h4⟩ := b2 h2
              obtain ⟨vs, r1, r2⟩ := repVs_ok h4
              exact ⟨.ref a, rfl, fun H => .lst (.inr ⟨_, its, n, q, congrArg Value.type (of_decide_eq_true h1), rfl, rfl, of_decide_eq_true h3, r1⟩) (r2 H)⟩
            | _ => cases h
          | some _ => cases dt <;> cases h
        | _ => cases od <;> cases dt <;> cases h
    | _ => exact cfalse h
  | .dict _, u, h => by cases u <;> exact cfalse h
theorem repVs_ok {K : PySem.W.Frag} : ∀ {ds : List D} {us : List Value}, repVs K ds us = true → ∃ vs, Vals vs us ∧ ∀ H, Reps K H ds vs
  | [], [], _ => ⟨[], .nil, fun _ => .nil⟩
  | [], _ :: _, h => cfalse h
  | _ :: _, [], h => cfalse h
  | d :: ds, u :: us, h => by
    obtain ⟨h1, h2⟩ := b2 (show (repV K d u && repVs K ds us) = true from h)
    obtain ⟨v, r1, r2⟩ := repV_ok h1
    obtain ⟨vs, r3, r4⟩ := repVs_ok h2
    exact ⟨v :: vs, .cons r1 r3, fun H => .cons (r2 H) (r4 H)⟩
end
def constB (K : PySem.W.Frag) (p : Str × D) : Bool := match PySem.W.nsIn K mainGlobals p.1 with
  | some (some u) => repV K p.2 u
  | _ => false
def exB (K : PySem.W.Frag) (e : Ed) : Bool := oexB K (He.ga K e.name) && (e.fs.all (fun f => decide (PySem.W.findIn K (.ref (He.ga K e.name)) f = some none)) && (decide (PySem.W.findIn K (.ref (He.ga K e.name)) "__init__" = some (some (.ref (He.fAd K (e.name, some "__init__"))))) &&
  decide (PySem.W.typeIn K (.ref (He.fAd K (e.name, some "__init__"))) = some (.type "function"))))
def bootTy (x : Str) : Bool := match bootBuiltins x with
  | some (.type _) => decide (x ≠ ("__name__" : Str))
  | _ => false
def cnV (K : PySem.W.Frag) (p : Str × Bool) : Value := if p.2 then .ref (He.ga K p.1) else (bootBuiltins p.1).getD .none
/-- an own class, as clauses and isinstance ask it -/
def clsB (t : Tab) (K : PySem.W.Frag) (c : Nat) (e : Ed) : Bool := xfB K (He.ga K e.name) && (decide e.fs.Nodup && (decide (PySem.W.findIn K (.ref (He.ga K e.name)) "__class__" = some (some (.builtin "object.__class__"))) &&
  (decide (PySem.W.specialIn K (.builtin "object.__class__") "__get__" = some (some (.builtin "getset_descriptor.__get__"))) && (decide (PySem.W.takesIn K (.builtin "object.__class__") = some true) && (decide (PySem.W.mroIn K (He.ga K e.name) (.type "object") = some true) &&
  (List.range t.cns.length).all fun k => match t.cns[k]? with
    | some p => (p.2 || bootTy p.1) && (decide (PySem.W.kitOne K (.ref (He.ga K e.name)) (cnV K p) = some (t.isub c k)) && decide (PySem.W.exmOne K (.ref (He.ga K e.name)) (cnV K p) = some (t.isub c k)))
    | none => true)))))
def Tab.ex (t : Tab) (K : PySem.W.Frag) : Bool := t.exs.all (exB K) && (t.consts.all (constB K) && (t.cns.all (fun p => p.2 || bootTy p.1) && (t.cns.isEmpty || (List.range t.exs.length).all fun c => match t.exs[c]? with
  | some e => clsB t K c e
  | none => true)))
def fdD (top : Nat → Stmt) (d : Fd) : He.DefD := ⟨(d.name, none), d.name, d.name, defArgs (top d.at_), defBody (top d.at_), defScope (top d.at_), [], []⟩
def edD (top : Nat → Stmt) (e : Ed) : He.DefD := ⟨(e.name, some "__init__"), "__init__", e.qual, defArgs (initOf (top e.at_)), defBody (initOf (top e.at_)), defScope (initOf (top e.at_)), [], []⟩
def Tab.fnD (t : Tab) (top : Nat → Stmt) : List He.DefD := t.fns.map (fdD top) ++ (t.exs.map (edD top) ++ (t.xfs.map (fdD top) ++ t.hfs.map (fdD top)))
def cnFa (p : Str × Bool) : He.Fa := if p.2 then .glo p.1 else .free p.1
def Tab.fa (t : Tab) : List He.Fa := t.fns.map (fun d => .glo d.name) ++ (t.exs.map (fun e => .glo e.name) ++ (t.bt.map .free ++ (t.xfs.map (fun d => .glo d.name) ++ (t.cns.map cnFa ++ t.hfs.map (fun d => .glo d.name)))))
/-- what is known behind the top -/
structure Facts (t : Tab) (top : Nat → Stmt) (K : PySem.W.Frag) (mg : Str → Option Value) : Prop where
  fd : ∀ d ∈ t.fns, mg d.name = some (.ref (He.ga K d.name)) ∧ ∃ fd, FunD K d.name d.name (defArgs (top d.at_)) (defBody (top d.at_)) (defScope (top d.at_)) [] [] (He.ga K d.name) fd
  ed : ∀ e ∈ t.exs, mg e.name = some (.ref (He.ga K e.name)) ∧ exB K e = true ∧ ∃ fd, FunD K "__init__" e.qual (defArgs (initOf (top e.at_))) (defBody (initOf (top e.at_))) (defScope (initOf (top e.at_))) [] [] (He.fAd K (e.name, some "__init__")) fd
  cs : ∀ p ∈ t.consts, ∃ u v, mg p.1 = some u ∧ RelV v u ∧ ∀ H, Rep K H p.2 v
  bt : ∀ x ∈ t.bt, mg x = none
  xd : ∀ d ∈ t.xfs, mg d.name = some (.ref (He.ga K d.name)) ∧ ∃ fd, FunD K d.name d.name (defArgs (top d.at_)) (defBody (top d.at_)) (defScope (top d.at_)) [] [] (He.ga K d.name) fd
  cn : ∀ p ∈ t.cns, (p.2 = true ∧ mg p.1 = some (cnV K p) ∨ mg p.1 = none ∧ bootBuiltins p.1 = some (cnV K p) ∧ p.1 ≠ ("__name__" : Str)) ∧ ∃ v, ∀ u, RelV v u ↔ u = cnV K p
  ec : t.cns = [] ∨ ∀ (c : Nat) (e : Ed), t.exs[c]? = some e → clsB t K c e = true
  hd : ∀ d ∈ t.hfs, mg d.name = some (.ref (He.ga K d.name)) ∧ ∃ fd, FunD K d.name d.name (defArgs (top d.at_)) (defBody (top d.at_)) (defScope (top d.at_)) [] [] (He.ga K d.name) fd
theorem bootTy_ok {x : Str} (h : bootTy x = true) : ∃ n, bootBuiltins x = some (.type n) ∧ x ≠ ("__name__" : Str) := by
  unfold bootTy at h
  split at h
  · exact ⟨_, by assumption, of_decide_eq_true h⟩
  · cases h
theorem Facts.of {t : Tab} {top : Nat → Stmt} {K : PySem.W.Frag} {mg : Str → Option Value} {h : Heap} (X : K.In h) (G : h.Ns mainGlobals mg) (c : He.SaysD t.fa (t.fnD top) K) (e : t.ex K = true) : Facts t top K mg := by
  obtain ⟨e1, e2⟩ := b2 e
  obtain ⟨e2, e3⟩ := b2 e2
  obtain ⟨e3, e4⟩ := b2 e3
  have mem1 : ∀ {f : He.Fa}, f ∈ t.fns.map (fun d => He.Fa.glo d.name) → f ∈ t.fa := fun h => List.mem_append_left _ h
  have mem2 : ∀ {f : He.Fa}, f ∈ t.exs.map (fun e => He.Fa.glo e.name) → f ∈ t.fa := fun h => List.mem_append_right _ (List.mem_append_left _ h)
  have mem3 : ∀ {f : He.Fa}, f ∈ t.bt.map He.Fa.free → f ∈ t.fa := fun h => List.mem_append_right _ (List.mem_append_right _ (List.mem_append_left _ h))
  have mem4 : ∀ {f : He.Fa}, f ∈ t.xfs.map (fun d => He.Fa.glo d.name) → f ∈ t.fa := fun h => List.mem_append_right _ (List.mem_append_right _ (List.mem_append_right _ (List.mem_append_left _ h)))
  have mem5 : ∀ {f : He.Fa}, f ∈ t.cns.map cnFa → f ∈ t.fa := fun h => List.mem_append_right _ (List.mem_append_right _ (List.mem_append_right _ (List.mem_append_right _ (List.mem_append_left _ h))))
  have mem6 : ∀ {f : He.Fa}, f ∈ t.hfs.map (fun d => He.Fa.glo d.name) → f ∈ t.fa := fun h => List.mem_append_right _ (List.mem_append_right _ (List.mem_append_right _ (List.mem_append_right _ (List.mem_append_right _ h))))
  refine ⟨fun d hd => ⟨?_, ?_⟩, fun x hx => ⟨?_, List.all_eq_true.mp e1 x hx, ?_⟩, fun p hp => ?_, fun x hx => ?_, fun d hd => ⟨?_, ?_⟩, fun p hp => ?_, ?_, fun d hd => ⟨?_, ?_⟩⟩
  · exact He.glo_ok X G (c.facts (f := .glo d.name) (mem1 (List.mem_map.mpr ⟨d, hd, rfl⟩)))
  · exact c.defs (d := fdD top d) (List.mem_append_left _ (List.mem_map_of_mem hd))
  · exact He.glo_ok X G (c.facts (f := .glo x.name) (mem2 (List.mem_map.mpr ⟨x, hx, rfl⟩)))
  · exact c.defs (d := edD top x) (List.mem_append_right _ (List.mem_append_left _ (List.mem_map_of_mem hx)))
  · have q := List.all_eq_true.mp e2 p hp
    unfold constB at q
    split at q
    · rename_i u hu
      obtain ⟨v, r1, r2⟩ := repV_ok q
      exact ⟨u, v, PySem.W.mg_of X G hu, r1, r2⟩
    · cases q
  · exact He.free_ok X G (c.facts (f := .free x) (mem3 (List.mem_map.mpr ⟨x, hx, rfl⟩)))
  · exact He.glo_ok X G (c.facts (f := .glo d.name) (mem4 (List.mem_map.mpr ⟨d, hd, rfl⟩)))
  · exact c.defs (d := fdD top d) (List.mem_append_right _ (List.mem_append_right _ (List.mem_append_left _ (List.mem_map_of_mem hd))))
  · have m : cnFa p ∈ t.fa := mem5 (List.mem_map.mpr ⟨p, hp, rfl⟩)
    obtain ⟨x, o⟩ := p
    cases o with
    | true => exact ⟨.inl ⟨rfl, He.glo_ok X G (c.facts (f := .glo x) m)⟩, .ref (He.ga K x), fun u => Iff.rfl⟩
    | false =>
      obtain ⟨n, h1, h2⟩ := bootTy_ok (show bootTy x = true from List.all_eq_true.mp e3 (x, false) hp)
      have ev : cnV K (x, false) = .type n := by
        show (bootBuiltins x).getD .none = _
        rw [h1]
        rfl
      exact ⟨.inr ⟨He.free_ok X G (c.facts (f := .free x) m), by rw [ev]; exact h1, h2⟩, .ty n, fun u => by rw [ev]; exact Iff.rfl⟩
  · rcases Bool.or_eq_true_iff.mp e4 with z | z
    · exact .inl (isEmpty_nil z)
    · refine .inr fun c e he => ?_
      have := List.all_eq_true.mp z c (List.mem_range.mpr (List.getElem?_eq_some_iff.mp he).1)
      rw [he] at this
      exact this
  · exact He.glo_ok X G (c.facts (f := .glo d.name) (mem6 (List.mem_map.mpr ⟨d, hd, rfl⟩)))
  · exact c.defs (d := fdD top d) (List.mem_append_right _ (List.mem_append_right _ (List.mem_append_right _ (List.mem_map_of_mem hd))))
/-- all the written checks -/
def Tab.chk (t : Tab) (top : Nat → Stmt) : Bool := t.fns.all (fdB t top) && (t.exs.all (edB top) && (t.xfs.all (xdB t top) && t.hfs.all (ydB t top)))
section
variable {t : Tab} {top : Nat → Stmt} {P : Program} {w : World} {K : PySem.W.Frag} {mg : Str → Option Value} {base : Heap}
theorem edOf_mem {c : Nat} {e : Ed} (h : t.exs[c]? = some e) : edOf t c = e := by
  unfold edOf
  rw [h]
  rfl
theorem _root_.L2.FunD.looked {x qual : Str} {params : Arguments} {body : List Stmt} {scope : Scope} {dvs : List V} {kws : List (Str × V)} {f : Addr} {fd : FuncData} (D : FunD K x qual params body scope dvs kws f fd) : ∃ oc od osl, K.lookup f = some ⟨oc, od, .func fd, osl⟩ := by
  obtain ⟨oc, od, dV, kV, doc, pm, an, cdv, ct, osl, e, lk, _⟩ := D.ex
  exact ⟨oc, od, osl, lk⟩
/-- an own class -/
theorem Facts.cls (F : Facts t top K mg) {S : Sx} {G : Gam} {cl : Cl} {X : Cx} {c : Nat} (hc : t.cok c = true) (e1 : X.K = K) (e2 : X.mg = mg) (e3 : S.cn = t.cns.map (·.1)) (e4 : G.xf = t.xf) (e5 : G.isub = t.isub) (e6 : cl.ca = (t.cl K).ca) (e7 : cl.cf = (t.cl K).cf) : ClsF S G cl X c := by
  obtain ⟨h1, h2⟩ := b2 hc
  have hl := of_decide_eq_true h2
  have he : t.exs[c]? = some t.exs[c] := List.getElem?_eq_getElem hl
  rcases F.ec with z | z
  · rw [z] at h1; cases h1
  · have q := z c _ he
    generalize t.exs[c] = e at he q
    have em := edOf_mem he
    have ca : (t.cl K).ca c = He.ga K e.name := by show He.ga K (edOf t c).name = _; rw [em]
    have cf : (t.cl K).cf c = e.fs := by show (edOf t c).fs = _; rw [em]
    obtain ⟨q1, q⟩ := b2 q
    obtain ⟨q2, q⟩ := b2 q
    obtain ⟨q3, q⟩ := b2 q
    obtain ⟨q4, q⟩ := b2 q
    obtain ⟨q5, q⟩ := b2 q
    obtain ⟨q6, q7⟩ := b2 q
    have x := xfB_ok q1
    obtain ⟨m1, m2, _⟩ := F.ed e (List.mem_of_getElem? he)
    obtain ⟨_, v2⟩ := b2 m2
    obtain ⟨v2, _⟩ := b2 v2
    refine ⟨by rw [e1, e6, ca]; exact x, fun f n hf => ?_, by rw [e1, e6, ca]; exact ⟨x.ga, x.gg, x.exC, x.hdC, of_decide_eq_true q3, of_decide_eq_true q4, of_decide_eq_true q5, of_decide_eq_true q6⟩, fun k y hk => ?_⟩
    · rw [e4] at hf
      have hf : (match t.exs[c]? with
        | some e => fieldIx e.fs f
        | none => none) = some n := hf
      rw [he] at hf
      obtain ⟨hn, hp, _⟩ := List.findIdx?_eq_some_iff_getElem.mp (show e.fs.findIdx? _ = some n from hf)
      have hg : e.fs[n]? = some f := by
        rw [List.getElem?_eq_getElem hn]
        exact congrArg some (by simpa using hp)
      rw [e1, e6, e7, ca, cf]
      exact ⟨hg, of_decide_eq_true q2, of_decide_eq_true (List.all_eq_true.mp v2 f (List.mem_of_getElem? hg))⟩
    · rw [e3, List.getElem?_map] at hk
      cases hp : t.cns[k]? with
      | none => rw [hp] at hk; cases hk
      | some p =>
        rw [hp] at hk
        cases hk
        have w := List.all_eq_true.mp q7 k (List.mem_range.mpr (List.getElem?_eq_some_iff.mp hp).1)
        rw [hp] at w
        obtain ⟨w1, w2⟩ := b2 w
        obtain ⟨w2, w3⟩ := b2 w2
        obtain ⟨n1, v, n2⟩ := F.cn p (List.mem_of_getElem? hp)
        rw [e1, e5, e6, ca]
        refine ⟨cnV K p, v, ?_, n2, of_decide_eq_true w2, of_decide_eq_true w3⟩
        unfold CNm
        rw [e2]
        exact n1.imp (fun z => z.2) id
theorem Facts.gl (F : Facts t top K mg) {j : Nat} {x : Str} {v : D} (h1 : (t.consts.map (·.1))[j]? = some x) (h2 : (t.consts.map (·.2))[j]? = some v) : ∃ u w, mg x = some u ∧ RelV w u ∧ ∀ H, Rep K H v w := by
  rw [List.getElem?_map] at h1 h2
  cases z : t.consts[j]? with
  | none => rw [z] at h1; cases h1
  | some p =>
    rw [z] at h1 h2
    cases h1
    cases h2
    exact F.cs p (List.mem_of_getElem? z)
theorem Tab.okx (F : Facts t top K mg) (hc : t.chk top = true) {k : Nat} {d : Fd} (hd : t.xfs[k]? = some d) : ∃ fd, FnX P w K mg base (t.cl K) t.cok 1 (He.ga K d.name) fd d.ps (t.fx k) ∧ Binds K fd d.ps [] ∧ PySem.W.keepIn K (.ref (He.ga K d.name)) = true ∧ mg d.name = some (.ref (He.ga K d.name)) := by
  obtain ⟨_, c2⟩ := b2 hc
  obtain ⟨_, c3⟩ := b2 c2
  obtain ⟨c3, _⟩ := b2 c3
  have q := List.all_eq_true.mp c3 d (List.mem_of_getElem? hd)
  obtain ⟨q1, q⟩ := b2 q
  obtain ⟨q2, q⟩ := b2 q
  obtain ⟨q3, q⟩ := b2 q
  obtain ⟨q4, q5⟩ := b2 q
  obtain ⟨m, fd, D⟩ := F.xd d (List.mem_of_getElem? hd)
  refine ⟨fd, ?_, binds_of D q1 (of_decide_eq_true q2), D.kp, m⟩
  have Sc := C8.fnScope_by q3
  have e : t.fx k = fun c fs => S.bodyx (t.gamx c fs) d.N.length d.body := by
    funext c fs
    show (match t.xfs[k]? with
      | some d => S.bodyx (t.gamx c fs) d.N.length d.body
      | none => .no) = _
    rw [hd]
  rw [e]
  refine fx_ok (Y := t.syx d) (G := t.gamx) (k := 0) D Sc (of_decide_eq_true q4) q5 rfl (fun c fs => rfl) fun cdv A outer s H p c fs dd hco hr hz hv => ?_
  have nh : ∀ {P : Prop}, (t.syx d).x.hot = false → P := fun z => Bool.noConfusion (show true = false from z)
  refine ⟨⟨rfl, Sc.nd, Agr.refl _, fun z => nh z, fun z => Bool.noConfusion (show false = true from z), fun z => nh z, ?_, ?_, fun j x v h1 h2 => F.gl h1 h2, F.bt, fun z => nh z, fun c' fs' e => ?_, fun z => Bool.noConfusion (show false = true from z)⟩, passes_of rfl, fun _ => rfl, rfl, rfl, fun z => nh z, fun z => nh z, fun z => nh z, fun z => nh z, fun z => nh z⟩
  · have := hr.un
    show (A.deeper _).units + 66 < cLine
    omega
  · intro u s' x
    obtain ⟨_, _, _, _, _, _, _, _, _, _, _, _, _, _, _, _, z⟩ := x
    exact z.elim
  · cases e
    exact ⟨rfl, ⟨p.2, List.mem_cons_self, hz, hv⟩, F.cls hco rfl rfl rfl rfl rfl rfl rfl, hco, fun k x hk => (by cases hk), fun k x hk => by cases hk⟩
theorem Tab.okxd (F : Facts t top K mg) (hc : t.chk top = true) {k : Nat} {d : Fd} (hd : t.hfs[k]? = some d) : ∃ fd, FnXd P w K mg base 1 (He.ga K d.name) fd d.ps (t.fh k) ∧ Binds K fd d.ps [] ∧ PySem.W.keepIn K (.ref (He.ga K d.name)) = true ∧ mg d.name = some (.ref (He.ga K d.name)) := by
  obtain ⟨_, c2⟩ := b2 hc
  obtain ⟨_, c3⟩ := b2 c2
  obtain ⟨_, c3⟩ := b2 c3
  have q := List.all_eq_true.mp c3 d (List.mem_of_getElem? hd)
  obtain ⟨q1, q⟩ := b2 q
  obtain ⟨q2, q⟩ := b2 q
  obtain ⟨q3, q⟩ := b2 q
  obtain ⟨q4, q5⟩ := b2 q
  obtain ⟨m, fd, D⟩ := F.hd d (List.mem_of_getElem? hd)
  refine ⟨fd, ?_, binds_of D q1 (of_decide_eq_true q2), D.kp, m⟩
  have Sc := C8.fnScope_by q3
  have e : t.fh k = fun x => S.bodyd t.gamd d.N.length d.body x := by
    funext x
    show (match t.hfs[k]? with
      | some d => S.bodyd t.gamd d.N.length d.body x
      | none => .no) = _
    rw [hd]
  rw [e]
  refine fxd_ok (Y := t.syd d) (G := t.gamd) (cl := t.cl K) (k := 0) D Sc (of_decide_eq_true q4) q5 rfl rfl fun cdv A outer s H p hr => ?_
  have nh : ∀ {P : Prop}, (t.syd d).x.hot = false → P := fun z => Bool.noConfusion (show true = false from z)
  refine ⟨⟨rfl, Sc.nd, Agr.refl _, fun z => nh z, fun z => Bool.noConfusion (show false = true from z), fun z => nh z, ?_, ?_, fun j x v h1 h2 => F.gl h1 h2, F.bt, fun z => nh z, fun c' fs' e => (by cases e), fun z => Bool.noConfusion (show false = true from z)⟩, passes_of rfl, fun _ => rfl, rfl, rfl, fun z => nh z, fun z => nh z, fun z => nh z, fun z => nh z, fun z => nh z⟩
  · have := hr.un
    show (A.deeper _).units + 66 < cLine
    omega
  · intro u s' x
    obtain ⟨_, _, _, _, _, _, _, _, _, _, _, _, _, _, _, _, z⟩ := x
    exact z.elim
theorem Tab.ok (F : Facts t top K mg) (hc : t.chk top = true) (hl : t.lmB K = true) (hL : Tbls.L = t.tb K) (hB : ∀ p ∈ t.cts K, LamX.TabB base mg p.1 p.2) : ∀ (k f : Nat) (d : Fd), t.fns[f]? = some d → ∃ fd, FnOk P w K mg base (CX P w) (k + 3) (He.ga K d.name) fd d.ps (spT K (t.cl K) d.ps.length d.io (t.call k f)) ∧ Binds K fd d.ps [] ∧ PySem.W.keepIn K (.ref (He.ga K d.name)) = true ∧ ∃ oc od osl, K.lookup (He.ga K d.name) = some ⟨oc, od, .func fd, osl⟩
  | 0, f, d, hd => by
    obtain ⟨c1, c2⟩ := b2 hc
    have q := List.all_eq_true.mp c1 d (List.mem_of_getElem? hd)
    obtain ⟨q1, q⟩ := b2 q
    obtain ⟨q2, q⟩ := b2 q
    obtain ⟨m, fd, D⟩ := F.fd d (List.mem_of_getElem? hd)
    exact ⟨fd, ⟨fun vs H Q E h => h.1, fun A outer s H args us vs Q E _ _ _ _ ⟨_, _, _, _, _, _, _, _, _, z⟩ => z.elim⟩, binds_of D q1 (of_decide_eq_true q2), D.kp, D.looked⟩
  | k + 1, f, d, hd => by
    let k_ := k
    obtain ⟨c1, c2⟩ := b2 hc
    obtain ⟨c2, c3⟩ := b2 c2
    have q := List.all_eq_true.mp c1 d (List.mem_of_getElem? hd)
    obtain ⟨q1, q⟩ := b2 q
    obtain ⟨q2, q⟩ := b2 q
    obtain ⟨q3, q⟩ := b2 q
    obtain ⟨q4, q⟩ := b2 q
    obtain ⟨q5, q6⟩ := b2 q
    obtain ⟨m, fd, D⟩ := F.fd d (List.mem_of_getElem? hd)
    refine ⟨fd, ?_, binds_of D q1 (of_decide_eq_true q2), D.kp, D.looked⟩
    have Sc := C8.fnScope_by q3
    have e : t.call (k + 1) f = S.body (t.gam (t.call k) d) d.N.length d.ps.length d.body := by
      funext ts
      show (match t.fns[f]? with
        | some d => S.body (t.gam (t.call k) d) d.N.length d.ps.length d.body ts
        | none => .no) = _
      rw [hd]
    rw [e]
    refine fn_ok (Y := t.sy d) (G := t.gam (t.call k) d) (k := k + 3) D Sc q6 rfl rfl (of_decide_eq_true q4) (fun i hi => of_decide_eq_true (List.all_eq_true.mp q5 i hi)) fun cdv hcv A outer s H E hr => ?_
    have tk := takes_of (X := cxOf (CX P w) P w K mg base d.N d.name (defScope (top d.at_)) (He.ga K d.name) cdv A outer s H E) rfl rfl rfl rfl
    refine ⟨⟨rfl, Sc.nd, Agr.refl _, fun _ => rfl, fun _ => rfl, fun _ => rfl, ?_, tk, fun j x v h1 h2 => F.gl h1 h2, F.bt, fun _ g x io h1 h2 => ?_, fun c fs e => (by cases e), fun z => ?lm⟩, passes_of rfl, fun _ => rfl, rfl, rfl, fun _ pn xe W' tk' c x n h => ?_, fun _ c hco => F.cls hco rfl rfl rfl rfl rfl rfl rfl, fun _ k x hk => ?_, fun _ a oe pn k x hk => ?_, fun _ a oe pn k x hk => ?_⟩
    case lm =>
      have z : t.lms.contains d.name = true := z
      have zm : d.name ∈ t.lms := by simpa using z
      obtain ⟨l1, _⟩ := b2 hl
      obtain ⟨c, P0, e1, e2, e3, e4⟩ := lmOne_ok (List.all_eq_true.mp l1 d.name zm)
      obtain ⟨oc, od, fdd, osl, lk, ecd⟩ := hcv
      have ec := codeOf_code e1 lk
      obtain ⟨u1, u2⟩ := Tab.tb_uniq hl zm e1
      rw [← hL] at u1 u2
      exact ⟨hr.mono (by omega), c, P0, hB (c, P0) (List.mem_filterMap.mpr ⟨_, zm, e1⟩), ecd.symm.trans ec, u1, u2⟩
    · have := hr.un
      show (A.deeper _).units + 66 < cLine
      omega
    · have h1 : (t.fns.map (·.name))[g]? = some x := h1
      have h2 : (t.fns.map (·.io))[g]? = some io := h2
      rw [List.getElem?_map] at h1 h2
      cases z : t.fns[g]? with
      | none => rw [z] at h1; cases h1
      | some d2 =>
        rw [z] at h1 h2
        cases h1
        cases h2
        obtain ⟨fd2, k1, k2, k3, _⟩ := Tab.ok F hc hl hL hB k g d2 z
        refine ⟨He.ga K d2.name, fd2, d2.ps, k + 3, (F.fd d2 (List.mem_of_getElem? z)).1, k3, k1, hr, k2, fun ts hts => ?_⟩
        cases k with
        | zero => exact absurd rfl hts
        | succ k =>
          have hts : (match t.fns[g]? with
            | some d => S.body (t.gam (t.call k) d) d.N.length d.ps.length d.body ts
            | none => .no) ≠ .no := hts
          rw [z] at hts
          exact body_len hts
    · have h : (t.exs.map fun e => (e.name, e.fs.length))[c]? = some (x, n) := h
      rw [List.getElem?_map] at h
      cases z : t.exs[c]? with
      | none => rw [z] at h; cases h
      | some e =>
        rw [z] at h
        cases h
        have em := edOf_mem z
        obtain ⟨m1, m2, fd2, D2⟩ := F.ed e (List.mem_of_getElem? z)
        have w1 := List.all_eq_true.mp c2 e (List.mem_of_getElem? z)
        obtain ⟨w1, w2⟩ := b2 w1
        obtain ⟨w2, w3⟩ := b2 w2
        obtain ⟨w3, w4⟩ := b2 w3
        obtain ⟨w4, w5⟩ := b2 w4
        obtain ⟨w5, w6⟩ := b2 w5
        obtain ⟨w6, w7⟩ := b2 w6
        obtain ⟨v1, v2⟩ := b2 m2
        obtain ⟨v2, v3⟩ := b2 v2
        obtain ⟨v3, v4⟩ := b2 v3
        have ca : (t.cl K).ca c = He.ga K e.name := by show He.ga K (edOf t c).name = _; rw [em]
        have cf : (t.cl K).cf c = e.fs := by show (edOf t c).fs = _; rw [em]
        refine ExF.g (x := e.name) ?_ (by rw [cf]) tk' (hr.mono (by omega))
        rw [ca, cf]
        refine ⟨oexB_ok v1, m1, fun f hf => of_decide_eq_true (List.all_eq_true.mp v2 f hf), ⟨_, of_decide_eq_true v3, of_decide_eq_true v4, _, _, _, _, _, fd2, e.self, e.as, D2, C8.fnScope_by w3, w4, of_decide_eq_true w5, binds_of D2 w1 (of_decide_eq_true w2)⟩, ?_, of_decide_eq_true w7⟩
        intro z2
        rw [z2] at w6
        cases w6
    · rw [show (t.sy d).x.cn = t.cns.map (·.1) from rfl, List.getElem?_map] at hk
      cases hp : t.cns[k]? with
      | none => rw [hp] at hk; cases hk
      | some p =>
        rw [hp] at hk
        cases hk
        exact ⟨cnV K p, (F.cn p (List.mem_of_getElem? hp)).1.imp (fun z => z.2) id⟩
    · rw [show (t.sy d).x.xnn = t.xfs.map (·.name) from rfl, List.getElem?_map] at hk
      cases hp : t.xfs[k]? with
      | none => rw [hp] at hk; cases hk
      | some d2 =>
        rw [hp] at hk
        cases hk
        obtain ⟨fd2, k1, k2, k3, k4⟩ := Tab.okx (P := P) (w := w) (base := base) F hc hp
        have r1 := hr.dp
        have r2 := hr.un
        exact ⟨He.ga K d2.name, fd2, d2.ps, 1, k4, k3, k1, L2H.RoomH.mono (j := 1) (k := k_ + 3) ⟨r1, r2⟩ (by omega), k2⟩
    · rw [show (t.sy d).x.hnn = t.hfs.map (·.name) from rfl, List.getElem?_map] at hk
      cases hp : t.hfs[k]? with
      | none => rw [hp] at hk; cases hk
      | some d2 =>
        rw [hp] at hk
        cases hk
        obtain ⟨fd2, k1, k2, k3, k4⟩ := Tab.okxd (P := P) (w := w) (base := base) F hc hp
        have r1 := hr.dp
        have r2 := hr.un
        exact ⟨He.ga K d2.name, fd2, d2.ps, 1, k4, k3, k1, L2H.RoomH.mono (j := 1) (k := k_ + 3) ⟨r1, r2⟩ (by omega), k2⟩
end
end Gn

set_option Elab.async false
set_option linter.all false
set_option maxRecDepth 100000
set_option maxHeartbeats 4000000
namespace Gn
open PySem PySem.Spec PyProof.Rows L2

/-! ### a lighter look at the heap behind the top: functions tell their code, code tells nothing -/
def refsY (o : Obj) : List Addr := match o.data with
  | .seq its _ => its.toList.flatMap He.refV
  | .dict es _ => es.toList.flatMap fun e => He.refV e.val
  | .func fd => He.refV fd.code
  | .cls cd => cd.ns :: cd.mro.flatMap He.refV
  | _ => []
/-- one step: what the last ones name, and no earlier ones -/
def stepY (g : Addr → Option Obj) (old new : List Addr) : List Addr := ((new.flatMap fun a => match g a with
  | some o => refsY o
  | none => []).eraseDups).filter fun a => !(old.contains a || new.contains a)
def asY (g : Addr → Option Obj) : Nat → List Addr → List Addr → List Addr
  | 0, old, new => new ++ old
  | n + 1, old, new => asY g n (new ++ old) (stepY g old new)
abbrev frY (g : Addr → Option Obj) (n : Nat) : PySem.W.Frag := He.frG g (asY g n [] [mainGlobals])
abbrev AlY : Type := He.AlD × Bool
def obsY (n : Nat) (fa : List He.Fa) (fn : List He.DefD) (ex : PySem.W.Frag → Bool) (g : Addr → Option Obj) : AlY := (He.obsD fa fn (frY g n), ex (frY g n))
def hookY (n : Nat) (fa : List He.Fa) (fn : List He.DefD) (ex : PySem.W.Frag → Bool) : PySem.W.Hook where
  α := AlY
  obs := fun s => obsY n fa fn ex s.heap.get?
  val := fun _ => (He.valD fn, true)
  says := fun _ h => ∃ K : PySem.W.Frag, K.In h ∧ He.SaysD fa fn K ∧ ex K = true
  of := fun _ _ e => ⟨_, He.frG_in, congrArg (fun z : AlY => z.1) e, congrArg (fun z : AlY => z.2) e⟩
  keeps := fun _ _ _ ⟨K, hK, c⟩ k => ⟨K, PySem.W.Frag.In.keeps hK k, c⟩
theorem obsY_eq {n : Nat} {fa : List He.Fa} {fn : List He.DefD} {ex : PySem.W.Frag → Bool} {g : Addr → Option Obj} {s : Shared} (h : ∀ a, g a = s.heap.get? a) : obsY n fa fn ex g = (hookY n fa fn ex).obs s := by
  have e : g = s.heap.get? := funext h
  rw [e] <;> rfl
/-! .. with the tables of the defs that hold a lambda -/
def tabEmpty : Option Obj → Bool
  | some ⟨.none, none, .fields vs, sl⟩ => vs.isEmpty && sl.isEmpty
  | _ => false
theorem tabEmpty_ok {o : Option Obj} (h : tabEmpty o = true) : o = some { cls := .none, data := .fields #[] } := by
  unfold tabEmpty at h
  split at h
  · obtain ⟨h1, h2⟩ := Bool.and_eq_true_iff.mp h
    rw [Array.isEmpty_iff.mp h1, Array.isEmpty_iff.mp h2]
  · cases h
def emptyB (g : Addr → Option Obj) (K : PySem.W.Frag) (lms : List Str) : Bool := lms.all fun x => match codeOf K x with
  | some (_, P) => tabEmpty (g P)
  | none => false
def obsT (n : Nat) (fa : List He.Fa) (fn : List He.DefD) (ex : PySem.W.Frag → Bool) (lms : List Str) (g : Addr → Option Obj) : AlY := (He.obsD fa fn (frY g n), ex (frY g n) && emptyB g (frY g n) lms)
def hookT (n : Nat) (fa : List He.Fa) (fn : List He.DefD) (ex : PySem.W.Frag → Bool) (lms : List Str) : PySem.W.Hook where
  α := AlY
  obs := fun s => obsT n fa fn ex lms s.heap.get?
  val := fun _ => (He.valD fn, true)
  says := fun _ h => ∃ K : PySem.W.Frag, K.In h ∧ He.SaysD fa fn K ∧ ex K = true ∧ ∀ x ∈ lms, ∀ c P, codeOf K x = some (c, P) → h.get? P = some { cls := .none, data := .fields #[] }
  of := fun _ s e => ⟨_, He.frG_in, congrArg (fun z : AlY => z.1) e, (Bool.and_eq_true_iff.mp (congrArg (fun z : AlY => z.2) e)).1, fun x hx c P ec => by
    have q := List.all_eq_true.mp (Bool.and_eq_true_iff.mp (congrArg (fun z : AlY => z.2) e)).2 x hx
    rw [ec] at q
    exact tabEmpty_ok q⟩
  keeps := fun _ _ _ ⟨K, hK, c, e, t⟩ k => ⟨K, PySem.W.Frag.In.keeps hK k, c, e, fun x hx d P ec => k _ _ (t x hx d P ec)⟩
theorem obsT_eq {n : Nat} {fa : List He.Fa} {fn : List He.DefD} {ex : PySem.W.Frag → Bool} {lms : List Str} {g : Addr → Option Obj} {s : Shared} (h : ∀ a, g a = s.heap.get? a) : obsT n fa fn ex lms g = (hookT n fa fn ex lms).obs s := by
  have e : g = s.heap.get? := funext h
  rw [e] <;> rfl
end Gn

set_option Elab.async false
set_option linter.all false
set_option maxRecDepth 100000
set_option maxHeartbeats 4000000
namespace Gn
open PySem PySem.Spec PyProof.Rows L2

/-! ### the law's end -/
def CXa (P : Program) : CXT := fun outer H s E u s' => ∃ w, CX P w outer H s E u s'
theorem anyW {P : Program} {w : World} {K : PySem.W.Frag} {mg : Str → Option Value} {base : Heap} {k : Nat} {f : Addr} {fd : FuncData} {ps : List Str} {sp : Sp} (F : FnOk P w K mg base (CX P w) k f fd ps sp) : FnOk P w K mg base (CXa P) k f fd ps sp :=
  ⟨F.len, fun A outer s H args us vs Q E hr e0 hb hv hs => codeAny_mono (F.run A outer s H args us vs Q E hr e0 hb hv hs) fun r s' q => by
    cases r with
    | ok fl => cases fl <;> exact q
    | error e => exact ⟨w, q⟩⟩
theorem noCX {P : Program} (H : Hp) (s : Shared) (e : Value) (s' : Shared) (h : CXa P [] H s (fun _ _ _ => False) e s') : False := by
  obtain ⟨w, a, B, H', cls, d, _, _, _, _, _, _, _, z⟩ := h
  exact z
/-- the law answers True: by its meaning -/
def Tab.good (t : Tab) (k li n : Nat) : Prop := ∀ ns : List Int, ns.length ≤ n → ∃ u, t.call k li [.fz (.list (ns.map .int))] = .ok (u, []) ∧ u.d = .bool true
theorem Tab.lawT {t : Tab} {top : Nat → Stmt} {P : Program} {w : World} {K : PySem.W.Frag} {mg : Str → Option Value} {k li n : Nat} {d : Fd} {x : Str} (F : Facts t top K mg) (hc : t.chk top = true) (hl : t.lmB K = true) (hd : t.fns[li]? = some d) (hps : d.ps = [x]) (hio : d.io = []) (good : t.good k li n) :
    ∃ (fd : FuncData) (sp : Sp), (∀ (s : Shared) (u : Value), BindsTo s fd ⟨[u], []⟩ [(x, u)]) ∧
      (∀ (H : Hp) (a : Addr) (ns : List Int), ns.length ≤ n → (∀ p ∈ t.cts K, H p.2 = some (.tbl #[])) → SqL K H a (ns.map V.int) → sp [.ref a] H (fun v _ => v = .bl true) fun _ _ _ => False) ∧
      ∀ base : Heap, (∀ p ∈ t.cts K, LamX.TabB base mg p.1 p.2) → FnOk P w K mg base (CXa P) (k + 3) (He.ga K d.name) fd [x] sp := by
  letI tbls : Tbls := ⟨t.tb K⟩
  obtain ⟨m, fd, D⟩ := F.fd d (List.mem_of_getElem? hd)
  obtain ⟨c1, c2⟩ := b2 hc
  have q := List.all_eq_true.mp c1 d (List.mem_of_getElem? hd)
  obtain ⟨q1, q⟩ := b2 q
  obtain ⟨q2, q⟩ := b2 q
  rw [hps] at q1 q2
  obtain ⟨e1, e2⟩ := plainArgs_ok q1
  refine ⟨fd, spT K (t.cl K) 1 [] (t.call k li), fun s u => ?_, fun H a ns hn tb hS => ?_, fun base hB => ?_⟩
  · refine FunD.bindsA (ps := [x]) D (fun kV doc pm an cdv ct us hl => ?_) s [u] rfl
    have := bind_plain (us := us) (as := (defArgs (top d.at_)).args) (fd := PySem.W.fnOf d.name d.name (defArgs (top d.at_)) (defBody (top d.at_)) (defScope (top d.at_)) .none kV doc pm an cdv ct) e1 rfl (by rw [e2]; simp) (by rw [hl, ← e2]; simp)
    rwa [e2] at this
  · obtain ⟨u, e, hu⟩ := good ns hn
    refine ⟨rfl, fun p hp => ?_, [.fz (.list (ns.map .int))], [], [], HidOk.nil, (fun _ z => nomatch z), ?_, rfl, ?_⟩
    · obtain ⟨y, hy, ey⟩ := List.mem_filterMap.mp (show p ∈ t.tb K from hp)
      cases ec : codeOf K y with
      | none => rw [ec] at ey; cases ey
      | some z =>
        rw [ec] at ey
        cases ey
        exact LamX.TabS.nil (tb z (List.mem_filterMap.mpr ⟨y, hy, ec⟩))
    · have s : SqL K (hide H ([] ++ [])) a (ns.map V.int) := by
        show SqL K (hide H []) a _
        rw [hide_nil]
        exact hS
      exact .cons (.fz (.lst s (Reps.of_ints ns))) .nil fun _ z => nomatch z
    · rw [e]
      intro v H' fr fo _ _ _ o _
      cases o with
      | @fz dd _ r =>
        have hu : dd = PyData.bool true := hu
        rw [hu] at r
        cases r
        rfl
      | lst _ _ _ => cases hu
      | tup _ _ => cases hu
  · obtain ⟨fd2, k1, k2, k3, oc, od, osl, k4⟩ := Tab.ok (P := P) (w := w) (base := base) F hc hl rfl hB k li d hd
    obtain ⟨oc', od', osl', k5⟩ := D.looked
    rw [k4] at k5
    cases k5
    rw [hps, hio] at k1
    exact anyW k1
/-- .. as the head asks for it: at a heap in which the tables are empty -/
theorem Tab.lawAt {t : Tab} {top : Nat → Stmt} {l : PySem.W.OpenLaw} {w : World} {K : PySem.W.Frag} {mg : Str → Option Value} {k li n : Nat} {d : Fd} {x : Str} {fa : Addr} {h : Heap} (F : Facts t top K mg) (KX : K.In h) (hc : t.chk top = true) (hl : t.lmB K = true) (hd : t.fns[li]? = some d) (hps : d.ps = [x]) (hio : d.io = []) (good : t.good k li n)
    (emp : ∀ y ∈ t.lms, ∀ c P, codeOf K y = some (c, P) → h.get? P = some { cls := .none, data := .fields #[] }) (hf : mg d.name = some (.ref fa)) : LamX.LawAtS l w K (CXa l.prog) (k + 3) n x mg fa h := by
  obtain ⟨fd, sp, h1, h2, h3⟩ := Tab.lawT (P := l.prog) (w := w) F hc hl hd hps hio good
  have e := hf.symm.trans (F.fd d (List.mem_of_getElem? hd)).1
  have e : fa = He.ga K d.name := by
    have := Option.some.inj e
    cases this
    rfl
  subst e
  have of : ∀ p ∈ t.cts K, ∃ y ∈ t.lms, codeOf K y = some (p.1, p.2) := fun p hp => List.mem_filterMap.mp hp
  obtain ⟨l1, _⟩ := b2 hl
  have one : ∀ p ∈ t.cts K, PySem.W.codeHdIn K p.1 p.2 = true ∧ K.lookup p.2 = none := fun p hp => by
    obtain ⟨y, hy, ey⟩ := of p hp
    obtain ⟨c, P, e1, e2, e3, _⟩ := lmOne_ok (List.all_eq_true.mp l1 y hy)
    rw [ey] at e1
    cases e1
    exact ⟨e2, e3⟩
  refine ⟨fd, t.cts K, sp, fun p hp => ?_, fun p hp => (one p hp).2, fun p hp => PySem.W.codeHd_of_K KX (one p hp).1, h1, fun H a ns hn _ tb hS => h2 H a ns hn tb hS, fun base _ _ hB => h3 base hB⟩
  obtain ⟨y, hy, ey⟩ := of p hp
  exact emp y hy _ _ ey
/-- the whole law -/
theorem walk_tabs {l : PySem.W.OpenLaw} {n k : Nat} {q : Program} {loose : List Str} {XP : (Str → Option Value) → Heap → Prop} {YP : World → Heap → Prop} {d : DefRec} {CX : CXT} {x : Str} (most : l.most = some n) (few : n ≤ sizeLine) (dfl : d.params.defaults = []) (room : Room k callerA)
    (F : ∀ (w : World) (mg : Str → Option Value) (fa : Addr) (h : Heap), YP w h → h.Ns mainGlobals mg → mg d.name = some (.ref fa) → ∃ K : PySem.W.Frag, K.In h ∧ LamX.LawAtS l w K CX k n x mg fa h)
    (none_ : ∀ (H : Hp) (s : Shared) (e : Value) (s' : Shared), CX [] H s (fun _ _ _ => False) e s' → False) : PySem.W.WalkO q loose XP YP l.row.toRowW d [] (fun f vs => PySem.call f vs) := by
  refine Att.attach_callB most dfl fun w sA sB mg mb fa o pm cd doc a us ns G Y h1 h2 h3 hm ho hi ln bits hg => ?_
  obtain ⟨K, inK, fd, cs, sp, emp, out, code, binds, asks, ok⟩ := F w mg fa _ Y G.T.g hm
  exact LamX.law_callTs inK G.T.g G.T.b G.T.builtins G.T.nolimit hg emp out code G.T.bmain ho hi (Nat.le_trans ln few) room ok binds (fun H tb sq => asks H a ns ln bits tb sq) fun H e s' => none_ H sB e s'
end Gn

set_option Elab.async false
set_option linter.all false
set_option maxRecDepth 100000
set_option maxHeartbeats 4000000
namespace Gn
open PySem PySem.Spec PyProof.Rows L2

/-! ### the meaning, by equations: values first -/
section
variable {α : Type}
@[simp] theorem shut_ok' (a : α) : (R.ok a).shut = .ok a := (rfl)
end
def bin2 (o : BinO) : R T → R T → R T
  | .ok t, .ok u => binT o t u.d
  | .ok _, .ex c f => .ex c f
  | .ok _, .no => .no
  | .ex c f, _ => .ex c f
  | .no, _ => .no
@[simp] theorem bin2_ok (o : BinO) (t u : T) : bin2 o (.ok t) (.ok u) = binT o t u.d := (rfl)
def boolR : R Bool → R T
  | .ok b => .ok (.fz (.bool b))
  | .ex c f => .ex c f
  | .no => .no
@[simp] theorem boolR_ok (b : Bool) : boolR (.ok b) = .ok (.fz (.bool b)) := (rfl)
def cmp2 (o : CmpO) : R T → R T → R T
  | .ok t, .ok u => boolR (cmpD o t.d u.d)
  | .ok _, .ex c f => .ex c f
  | .ok _, .no => .no
  | .ex c f, _ => .ex c f
  | .no, _ => .no
@[simp] theorem cmp2_ok (o : CmpO) (t u : T) : cmp2 o (.ok t) (.ok u) = boolR (cmpD o t.d u.d) := (rfl)
def negD : D → R T
  | .int i => .ok (.fz (.int (-i)))
  | _ => .no
@[simp] theorem negD_int (i : Int) : negD (.int i) = .ok (.fz (.int (-i))) := (rfl)
def neg1 : R T → R T
  | .ok t => negD t.d
  | .ex c f => .ex c f
  | .no => .no
@[simp] theorem neg1_ok (t : T) : neg1 (.ok t) = negD t.d := (rfl)
def tst1 : R T → R Bool
  | .ok t => truD t.d
  | .ex c f => .ex c f
  | .no => .no
@[simp] theorem tst1_ok (t : T) : tst1 (.ok t) = truD t.d := (rfl)
def andT : R Bool → T → R T → R T
  | .ok true, _, r => r
  | .ok false, t, _ => .ok (.fz t.d)
  | .ex c f, _, _ => .ex c f
  | .no, _, _ => .no
@[simp] theorem andT_true (t : T) (r : R T) : andT (.ok true) t r = r := (rfl)
@[simp] theorem andT_false (t : T) (r : R T) : andT (.ok false) t r = .ok (.fz t.d) := (rfl)
@[simp] theorem andT_bool (a b : Bool) : andT (.ok a) (.fz (.bool a)) (.ok (.fz (.bool b))) = .ok (.fz (.bool (a && b))) := by cases a <;> rfl
def orT : R Bool → T → R T → R T
  | .ok false, _, r => r
  | .ok true, t, _ => .ok (.fz t.d)
  | .ex c f, _, _ => .ex c f
  | .no, _, _ => .no
@[simp] theorem orT_false (t : T) (r : R T) : orT (.ok false) t r = r := (rfl)
@[simp] theorem orT_true (t : T) (r : R T) : orT (.ok true) t r = .ok (.fz t.d) := (rfl)
@[simp] theorem orT_bool (a b : Bool) : orT (.ok a) (.fz (.bool a)) (.ok (.fz (.bool b))) = .ok (.fz (.bool (a || b))) := by cases a <;> rfl
def and2 : R T → R T → R T
  | .ok t, r => andT (truD t.d) t r
  | .ex c f, _ => .ex c f
  | .no, _ => .no
@[simp] theorem and2_ok (t : T) (r : R T) : and2 (.ok t) r = andT (truD t.d) t r := (rfl)
def or2 : R T → R T → R T
  | .ok t, r => orT (truD t.d) t r
  | .ex c f, _ => .ex c f
  | .no, _ => .no
@[simp] theorem or2_ok (t : T) (r : R T) : or2 (.ok t) r = orT (truD t.d) t r := (rfl)
def notB : R Bool → R T
  | .ok b => .ok (.fz (.bool (!b)))
  | .ex c f => .ex c f
  | .no => .no
@[simp] theorem notB_ok (b : Bool) : notB (.ok b) = .ok (.fz (.bool (!b))) := (rfl)
def idx2 : R T → R T → R T
  | .ok t, .ok u => idxD t.d u.d
  | .ok _, .ex c f => .ex c f
  | .ok _, .no => .no
  | .ex c f, _ => .ex c f
  | .no, _ => .no
@[simp] theorem idx2_ok (t u : T) : idx2 (.ok t) (.ok u) = idxD t.d u.d := (rfl)
def part1 : R T → R (Option Int)
  | .ok t => do return some (← partD t.d)
  | .ex c f => .ex c f
  | .no => .no
@[simp] theorem part1_int (i : Int) : part1 (.ok (.fz (.int i))) = .ok (some i) := (rfl)
def sl3 : R T → R (Option Int) → R (Option Int) → R T
  | .ok t, .ok l, .ok h => sliD t.d l h
  | .ok _, .ok _, .ex c f => .ex c f
  | .ok _, .ok _, .no => .no
  | .ok _, .ex c f, _ => .ex c f
  | .ok _, .no, _ => .no
  | .ex c f, _, _ => .ex c f
  | .no, _, _ => .no
@[simp] theorem sl3_ok (t : T) (l h : Option Int) : sl3 (.ok t) (.ok l) (.ok h) = sliD t.d l h := (rfl)
def cons2 : R T → R (List T) → R (List T)
  | .ok t, .ok u => .ok (t :: u)
  | .ok _, .ex c f => .ex c f
  | .ok _, .no => .no
  | .ex c f, _ => .ex c f
  | .no, _ => .no
@[simp] theorem cons2_ok (t : T) (u : List T) : cons2 (.ok t) (.ok u) = .ok (t :: u) := (rfl)
def lst1 : R (List T) → R T
  | .ok ts => .ok (.lst ts)
  | .ex c f => .ex c f
  | .no => .no
@[simp] theorem lst1_ok (t : List T) : lst1 (.ok t) = .ok (.lst t) := (rfl)
def tup1 : R (List T) → R T
  | .ok ts => .ok (mkTup ts)
  | .ex c f => .ex c f
  | .no => .no
@[simp] theorem tup1_ok (t : List T) : tup1 (.ok t) = .ok (mkTup t) := (rfl)
def fst1 : R (T × List T) → R T
  | .ok r => .ok r.1
  | .ex c f => .ex c f
  | .no => .no
@[simp] theorem fst1_ok (t : T) (u : List T) : fst1 (.ok (t, u)) = .ok t := (rfl)
@[simp] theorem fst1_ex (c : Nat) (f : List D) : fst1 (.ex c f) = .ex c f := (rfl)
def frzs (ts : List T) : List T := fzs (T.ds ts)
theorem frzs_eq (ts : List T) : (ts.map fun t => T.fz t.d) = frzs ts := by
  unfold frzs fzs
  rw [T.ds_map]
  simp
def call1 (G : Gam) (k : Nat) : R (List T) → R T
  | .ok ts => fst1 (G.fn k (frzs ts))
  | .ex c f => .ex c f
  | .no => .no
@[simp] theorem call1_ok (G : Gam) (k : Nat) (ts : List T) : call1 G k (.ok ts) = fst1 (G.fn k (fzs (T.ds ts))) := (rfl)
def bi1 (c : Bool) (b : BI) : R (List T) → R T
  | .ok ts => biD c b (T.ds ts)
  | .ex c f => .ex c f
  | .no => .no
@[simp] theorem bi1_ok (c : Bool) (b : BI) (ts : List T) : bi1 c b (.ok ts) = biD c b (T.ds ts) := (rfl)
def isi1 (ty : Ty) : R T → R T
  | .ok t => .ok (.fz (.bool (isTy ty t.d)))
  | .ex c f => .ex c f
  | .no => .no
@[simp] theorem isi1_ok (ty : Ty) (t : T) : isi1 ty (.ok t) = .ok (.fz (.bool (isTy ty t.d))) := (rfl)
def seqI : R T → R (List D)
  | .ok t => itemsD t.d
  | .ex c f => .ex c f
  | .no => .no
@[simp] theorem seqI_ok (t : T) : seqI (.ok t) = itemsD t.d := (rfl)
def rngT : D → R (List D)
  | .int j => rngD 0 j
  | _ => .no
def rngT2 : D → D → R (List D)
  | .int i, .int j => rngD i j
  | _, _ => .no
@[simp] theorem rngT_int (j : Int) : rngT (.int j) = rngD 0 j := (rfl)
@[simp] theorem rngT2_int (i j : Int) : rngT2 (.int i) (.int j) = rngD i j := (rfl)
def rngI : R T → R (List D)
  | .ok t => rngT t.d
  | .ex c f => .ex c f
  | .no => .no
@[simp] theorem rngI_ok (t : T) : rngI (.ok t) = rngT t.d := (rfl)
def rngI2 : R T → R T → R (List D)
  | .ok t, .ok u => rngT2 t.d u.d
  | .ok _, .ex c f => .ex c f
  | .ok _, .no => .no
  | .ex c f, _ => .ex c f
  | .no, _ => .no
@[simp] theorem rngI2_ok (t u : T) : rngI2 (.ok t) (.ok u) = rngT2 t.d u.d := (rfl)
def optR : R T → R (Option T)
  | .ok t => .ok (some t)
  | _ => .no
@[simp] theorem optR_ok (t : T) : optR (.ok t) = .ok (some t) := (rfl)
def ifR : R Bool → R (Option T) → R (Option T)
  | .ok true, r => r
  | .ok false, _ => .ok none
  | _, _ => .no
@[simp] theorem ifR_true (r : R (Option T)) : ifR (.ok true) r = r := (rfl)
@[simp] theorem ifR_false (r : R (Option T)) : ifR (.ok false) r = .ok none := (rfl)
def onIf (b : Bool) (t : T) : Option T := if b then some t else none
@[simp] theorem ifR_ok (b : Bool) (t : T) : ifR (.ok b) (.ok (some t)) = .ok (onIf b t) := by cases b <;> rfl
/-- one turn of a comprehension -/
def cpF (G : Gam) (elt : P) (i : Nat) (cond : List P) (ρ : Rho) (d : D) : R (Option T) := (do
  let b ← P.tsts G cond (ρ.set i (some (.fz d)))
  if b = true then (do let t ← elt.ev G (ρ.set i (some (.fz d))); return some t) else return none).shut
theorem cpF_nil (G : Gam) (elt : P) (i : Nat) (ρ : Rho) (d : D) : cpF G elt i [] ρ d = optR (elt.ev G (ρ.set i (some (.fz d)))) := by
  unfold cpF
  show (do let t ← elt.ev G (ρ.set i (some (.fz d))); return some t : R (Option T)).shut = _
  cases elt.ev G (ρ.set i (some (.fz d))) <;> rfl
theorem cpF_one (G : Gam) (elt c : P) (i : Nat) (ρ : Rho) (d : D) : cpF G elt i [c] ρ d = ifR (tst1 (c.ev G (ρ.set i (some (.fz d))))) (optR (elt.ev G (ρ.set i (some (.fz d))))) := by
  unfold cpF
  show (do
    let b ← (do
      let t ← c.ev G (ρ.set i (some (.fz d)))
      if ← truD t.d then P.tsts G [] (ρ.set i (some (.fz d))) else .ok false : R Bool)
    if b = true then (do let t ← elt.ev G (ρ.set i (some (.fz d))); return some t) else return none : R (Option T)).shut = _
  cases c.ev G (ρ.set i (some (.fz d))) with
  | ex _ _ => rfl
  | no => rfl
  | ok t =>
    show (do
      let b ← (do
        if ← truD t.d then (.ok true : R Bool) else .ok false)
      if b = true then (do let t ← elt.ev G (ρ.set i (some (.fz d))); return some t) else return none : R (Option T)).shut = ifR (truD t.d) _
    cases e : truD t.d with
    | ex _ _ => rfl
    | no => rfl
    | ok b =>
      cases b with
      | false => rfl
      | true =>
        show (do let t ← elt.ev G (ρ.set i (some (.fz d))); return some t : R (Option T)).shut = _
        cases elt.ev G (ρ.set i (some (.fz d))) <;> rfl
def lstC : R (List T) → Nat → R T
  | .ok ts, n => if n ≤ sizeLine then .ok (.lst ts) else .no
  | .ex c f, _ => .ex c f
  | .no, _ => .no
theorem lstC_ok (ts : List T) (n : Nat) (h : n ≤ sizeLine) : lstC (.ok ts) n = .ok (.lst ts) := if_pos h
def comp1 (F : D → R (Option T)) : R (List D) → R T
  | .ok ds => lstC (compL F ds) ds.length
  | .ex c f => .ex c f
  | .no => .no
@[simp] theorem comp1_ok (F : D → R (Option T)) (ds : List D) : comp1 F (.ok ds) = lstC (compL F ds) ds.length := (rfl)
def xflR (hx : Option (Nat × List D)) (xf : Nat → Str → Option Nat) (f : Str) : R T := match hx with
  | some (c, fs) => match xf c f with
    | some n => match fs[n]? with
      | some d => .ok (.fz d)
      | none => .no
    | none => .no
  | none => .no
theorem xflR_some (c : Nat) (fs : List D) (xf : Nat → Str → Option Nat) (f : Str) (n : Nat) (d : D) (h : xf c f = some n) (h2 : fs[n]? = some d) : xflR (some (c, fs)) xf f = .ok (.fz d) := by
  simp [xflR, h, h2]
def xisR (hx : Option (Nat × List D)) (isub : Nat → Nat → Bool) (k : Nat) : R T := match hx with
  | some (c, _) => .ok (.fz (.bool (isub c k)))
  | none => .no
@[simp] theorem xisR_some (c : Nat) (fs : List D) (isub : Nat → Nat → Bool) (k : Nat) : xisR (some (c, fs)) isub k = .ok (.fz (.bool (isub c k))) := (rfl)
def xcR (hx : Option (Nat × List D)) (fx : Nat → Nat → List D → R T) (k : Nat) : R T := match hx with
  | some (c, fs) => (fx k c fs).shut
  | none => .no
@[simp] theorem xcR_some (c : Nat) (fs : List D) (fx : Nat → Nat → List D → R T) (k : Nat) : xcR (some (c, fs)) fx k = (fx k c fs).shut := (rfl)
def varR (x : Option (Option T)) : R T := match x with
  | some (some t) => .ok (.fz t.d)
  | _ => .no
@[simp] theorem varR_some (t : T) : varR (some (some t)) = .ok (.fz t.d) := (rfl)
section
variable (G : Gam) (ρ : Rho)
@[simp] theorem ev_cst (d : D) : P.ev G (.cst d) ρ = .ok (.fz d) := (rfl)
@[simp] theorem ev_var (i : Nat) : P.ev G (.var i) ρ = varR ρ[i]? := by
  unfold P.ev varR
  rfl
@[simp] theorem ev_bin (o : BinO) (p q : P) : P.ev G (.bin o p q) ρ = bin2 o (p.ev G ρ) (q.ev G ρ) := by
  show (do let t ← p.ev G ρ; let u ← q.ev G ρ; binT o t u.d : R T) = _
  cases p.ev G ρ <;> cases q.ev G ρ <;> rfl
@[simp] theorem ev_neg (p : P) : P.ev G (.neg p) ρ = neg1 (p.ev G ρ) := by
  show (do
    let t ← p.ev G ρ
    match t.d with
    | .int i => .ok (.fz (.int (-i)))
    | _ => .no : R T) = _
  cases p.ev G ρ with
  | ok t =>
    show (match t.d with
      | .int i => .ok (.fz (.int (-i)))
      | _ => .no : R T) = negD t.d
    cases t.d <;> rfl
  | ex _ _ => rfl
  | no => rfl
@[simp] theorem ev_cmp (o : CmpO) (p q : P) : P.ev G (.cmp o p q) ρ = cmp2 o (p.ev G ρ) (q.ev G ρ) := by
  show (do let t ← p.ev G ρ; let u ← q.ev G ρ; let b ← cmpD o t.d u.d; return .fz (.bool b) : R T) = _
  cases p.ev G ρ with
  | ok t =>
    cases q.ev G ρ with
    | ok u =>
      show (do let b ← cmpD o t.d u.d; return .fz (.bool b) : R T) = boolR (cmpD o t.d u.d)
      cases cmpD o t.d u.d <;> rfl
    | ex _ _ => rfl
    | no => rfl
  | ex _ _ => rfl
  | no => rfl
@[simp] theorem ev_and (p q : P) : P.ev G (.andv p q) ρ = and2 (p.ev G ρ) (q.ev G ρ) := by
  show (do let t ← p.ev G ρ; let b ← truD t.d; if b = true then q.ev G ρ else .ok (.fz t.d) : R T) = _
  cases p.ev G ρ with
  | ok t =>
    show (do let b ← truD t.d; if b = true then q.ev G ρ else .ok (.fz t.d) : R T) = andT (truD t.d) t (q.ev G ρ)
    cases truD t.d with
    | ok b => cases b <;> rfl
    | ex _ _ => rfl
    | no => rfl
  | ex _ _ => rfl
  | no => rfl
@[simp] theorem ev_or (p q : P) : P.ev G (.orv p q) ρ = or2 (p.ev G ρ) (q.ev G ρ) := by
  show (do let t ← p.ev G ρ; let b ← truD t.d; if b = true then .ok (.fz t.d) else q.ev G ρ : R T) = _
  cases p.ev G ρ with
  | ok t =>
    show (do let b ← truD t.d; if b = true then .ok (.fz t.d) else q.ev G ρ : R T) = orT (truD t.d) t (q.ev G ρ)
    cases truD t.d with
    | ok b => cases b <;> rfl
    | ex _ _ => rfl
    | no => rfl
  | ex _ _ => rfl
  | no => rfl
@[simp] theorem ev_not (p : P) : P.ev G (.notv p) ρ = notB (tst1 (p.ev G ρ)) := by
  show (do let t ← p.ev G ρ; let b ← truD t.d; return .fz (.bool (!b)) : R T) = _
  cases p.ev G ρ with
  | ok t =>
    show (do let b ← truD t.d; return .fz (.bool (!b)) : R T) = notB (truD t.d)
    cases truD t.d <;> rfl
  | ex _ _ => rfl
  | no => rfl
@[simp] theorem ev_idx (p q : P) : P.ev G (.idx p q) ρ = idx2 (p.ev G ρ) (q.ev G ρ) := by
  show (do let t ← p.ev G ρ; let u ← q.ev G ρ; idxD t.d u.d : R T) = _
  cases p.ev G ρ <;> cases q.ev G ρ <;> rfl
@[simp] theorem prt_none : P.prt G none ρ = .ok none := (rfl)
@[simp] theorem prt_some (p : P) : P.prt G (some p) ρ = part1 (p.ev G ρ) := by
  show (do let t ← p.ev G ρ; let i ← partD t.d; return some i : R (Option Int)) = _
  cases p.ev G ρ <;> rfl
@[simp] theorem ev_sl (p : P) (lo hi : Option P) : P.ev G (.sl p lo hi) ρ = sl3 (p.ev G ρ) (P.prt G lo ρ) (P.prt G hi ρ) := by
  show (do let t ← p.ev G ρ; let l ← P.prt G lo ρ; let h ← P.prt G hi ρ; sliD t.d l h : R T) = _
  cases p.ev G ρ <;> cases P.prt G lo ρ <;> cases P.prt G hi ρ <;> rfl
@[simp] theorem ev_lst (ps : List P) : P.ev G (.lst ps) ρ = lst1 (P.evs G ps ρ) := by
  show (do let ts ← P.evs G ps ρ; return .lst ts : R T) = _
  cases P.evs G ps ρ <;> rfl
@[simp] theorem ev_tup (ps : List P) : P.ev G (.tup ps) ρ = tup1 (P.evs G ps ρ) := by
  show (do let ts ← P.evs G ps ρ; return mkTup ts : R T) = _
  cases P.evs G ps ρ <;> rfl
@[simp] theorem ev_call (k : Nat) (ps : List P) : P.ev G (.call k ps) ρ = call1 G k (P.evs G ps ρ) := by
  show (do let ts ← P.evs G ps ρ; let r ← G.fn k (ts.map fun t => .fz t.d); return r.1 : R T) = _
  cases P.evs G ps ρ with
  | ok ts =>
    show (do let r ← G.fn k (ts.map fun t => .fz t.d); return r.1 : R T) = fst1 (G.fn k (frzs ts))
    rw [frzs_eq]
    cases G.fn k (frzs ts) <;> rfl
  | ex _ _ => rfl
  | no => rfl
@[simp] theorem ev_bi (b : BI) (ps : List P) : P.ev G (.bi b ps) ρ = bi1 G.calm b (P.evs G ps ρ) := by
  show (do let ts ← P.evs G ps ρ; biD G.calm b (T.ds ts) : R T) = _
  cases P.evs G ps ρ <;> rfl
@[simp] theorem ev_isi (p : P) (ty : Ty) : P.ev G (.isi p ty) ρ = isi1 ty (p.ev G ρ) := by
  show (do let t ← p.ev G ρ; return .fz (.bool (isTy ty t.d)) : R T) = _
  cases p.ev G ρ <;> rfl
@[simp] theorem ev_xfl (f : Str) : P.ev G (.xfl f) ρ = xflR G.hx G.xf f := (rfl)
@[simp] theorem ev_xis (k : Nat) : P.ev G (.xis k) ρ = xisR G.hx G.isub k := (rfl)
@[simp] theorem ev_xcall (k : Nat) : P.ev G (.xcall k) ρ = xcR G.hx G.fx k := (rfl)
@[simp] theorem evs_nil : P.evs G [] ρ = .ok [] := (rfl)
@[simp] theorem evs_cons (p : P) (ps : List P) : P.evs G (p :: ps) ρ = cons2 (p.ev G ρ) (P.evs G ps ρ) := by
  show (do let t ← p.ev G ρ; let ts ← P.evs G ps ρ; return t :: ts : R (List T)) = _
  cases p.ev G ρ <;> cases P.evs G ps ρ <;> rfl
@[simp] theorem tst_eq (p : P) : P.tst G p ρ = tst1 (p.ev G ρ) := by
  show (do truD (← p.ev G ρ).d : R Bool) = _
  cases p.ev G ρ <;> rfl
/-- what a comprehension walks -/
def itsR (k : IK) (its : List P) : R (List D) := do itemsK k (← P.evs G its ρ)
theorem ev_comp (elt : P) (i : Nat) (k : IK) (its cond : List P) (h : G.calm = true) : P.ev G (.comp elt i k its cond) ρ = comp1 (cpF G elt i cond ρ) (itsR G ρ k its) := by
  show (if G.calm = true then (do
      let ds ← itemsK k (← P.evs G its ρ)
      let ts ← compL (cpF G elt i cond ρ) ds
      if ds.length ≤ sizeLine then .ok (.lst ts) else .no) else R.no : R T) = _
  rw [if_pos h]
  show _ = comp1 _ (do itemsK k (← P.evs G its ρ))
  cases P.evs G its ρ with
  | ok ts =>
    show (do
      let ds ← itemsK k ts
      let ts ← compL (cpF G elt i cond ρ) ds
      if ds.length ≤ sizeLine then .ok (.lst ts) else .no : R T) = comp1 _ (itemsK k ts)
    cases itemsK k ts with
    | ok ds =>
      show (do
        let ts ← compL (cpF G elt i cond ρ) ds
        if ds.length ≤ sizeLine then .ok (.lst ts) else .no : R T) = lstC (compL (cpF G elt i cond ρ) ds) ds.length
      cases compL (cpF G elt i cond ρ) ds <;> rfl
    | ex _ _ => rfl
    | no => rfl
  | ex _ _ => rfl
  | no => rfl
@[simp] theorem itsR_seq (p : P) : itsR G ρ .seq [p] = seqI (p.ev G ρ) := by
  unfold itsR
  rw [evs_cons, evs_nil]
  cases p.ev G ρ <;> rfl
@[simp] theorem itsR_rng1 (p : P) : itsR G ρ .rng1 [p] = rngI (p.ev G ρ) := by
  unfold itsR
  rw [evs_cons, evs_nil]
  cases p.ev G ρ <;> rfl
@[simp] theorem itsR_rng2 (p q : P) : itsR G ρ .rng2 [p, q] = rngI2 (p.ev G ρ) (q.ev G ρ) := by
  unfold itsR
  rw [evs_cons, evs_cons, evs_nil]
  cases p.ev G ρ with
  | ok t => cases q.ev G ρ <;> rfl
  | ex _ _ => rfl
  | no => rfl
@[simp] theorem items_seq (p : P) : itemsM G .seq [p] ρ = seqI (p.ev G (drop ρ)) := by
  unfold itemsM
  show (do itemsK .seq (← P.evs G [p] (drop ρ)) : R (List D)) = _
  rw [evs_cons, evs_nil]
  cases p.ev G (drop ρ) <;> rfl
@[simp] theorem items_rng1 (p : P) : itemsM G .rng1 [p] ρ = rngI (p.ev G ρ) := by
  unfold itemsM
  show (do itemsK .rng1 (← P.evs G [p] ρ) : R (List D)) = _
  rw [evs_cons, evs_nil]
  cases p.ev G ρ <;> rfl
@[simp] theorem items_rng2 (p q : P) : itemsM G .rng2 [p, q] ρ = rngI2 (p.ev G ρ) (q.ev G ρ) := by
  unfold itemsM
  show (do itemsK .rng2 (← P.evs G [p, q] ρ) : R (List D)) = _
  rw [evs_cons, evs_cons, evs_nil]
  cases p.ev G ρ with
  | ok t => cases q.ev G ρ <;> rfl
  | ex _ _ => rfl
  | no => rfl
end

/-! exceptions go on -/
section
variable (c : Nat) (f : List D) (t : T) (r : R T) (rs : R (List T)) (ts : List T)
@[simp] theorem bin2_x1 (o : BinO) : bin2 o (.ex c f) r = .ex c f := (rfl)
@[simp] theorem bin2_x2 (o : BinO) : bin2 o (.ok t) (.ex c f) = .ex c f := (rfl)
@[simp] theorem cmp2_x1 (o : CmpO) : cmp2 o (.ex c f) r = .ex c f := (rfl)
@[simp] theorem cmp2_x2 (o : CmpO) : cmp2 o (.ok t) (.ex c f) = .ex c f := (rfl)
@[simp] theorem neg1_x : neg1 (.ex c f) = .ex c f := (rfl)
@[simp] theorem tst1_x : tst1 (.ex c f) = .ex c f := (rfl)
@[simp] theorem notB_x : notB (.ex c f) = .ex c f := (rfl)
@[simp] theorem and2_x : and2 (.ex c f) r = .ex c f := (rfl)
@[simp] theorem or2_x : or2 (.ex c f) r = .ex c f := (rfl)
@[simp] theorem idx2_x1 : idx2 (.ex c f) r = .ex c f := (rfl)
@[simp] theorem idx2_x2 : idx2 (.ok t) (.ex c f) = .ex c f := (rfl)
@[simp] theorem cons2_x1 : cons2 (.ex c f) rs = .ex c f := (rfl)
@[simp] theorem cons2_x2 : cons2 (.ok t) (.ex c f) = .ex c f := (rfl)
@[simp] theorem lst1_x : lst1 (.ex c f) = .ex c f := (rfl)
@[simp] theorem tup1_x : tup1 (.ex c f) = .ex c f := (rfl)
@[simp] theorem call1_x (G : Gam) (k : Nat) : call1 G k (.ex c f) = .ex c f := (rfl)
@[simp] theorem bi1_x (cc : Bool) (b : BI) : bi1 cc b (.ex c f) = .ex c f := (rfl)
@[simp] theorem isi1_x (ty : Ty) : isi1 ty (.ex c f) = .ex c f := (rfl)
@[simp] theorem seqI_x : seqI (.ex c f) = .ex c f := (rfl)
@[simp] theorem rngI_x : rngI (.ex c f) = .ex c f := (rfl)
@[simp] theorem comp1_x (F : D → R (Option T)) : comp1 F (.ex c f) = .ex c f := (rfl)
end
/-! ### statements -/
def Res.thn (r : Res) (G : Gam) (ss : List S) : Res := match r with
  | .nx ρ => S.runs G ss ρ
  | r => r
@[simp] theorem thn_nx (ρ : Rho) (G : Gam) (ss : List S) : (Res.nx ρ).thn G ss = S.runs G ss ρ := (rfl)
@[simp] theorem thn_rt (t : T) (ρ : Rho) (G : Gam) (ss : List S) : (Res.rt t ρ).thn G ss = .rt t ρ := (rfl)
@[simp] theorem thn_ex (c : Nat) (fs : List D) (ρ : Rho) (G : Gam) (ss : List S) : (Res.ex c fs ρ).thn G ss = .ex c fs ρ := (rfl)
@[simp] theorem thn_bk (ρ : Rho) (G : Gam) (ss : List S) : (Res.bk ρ).thn G ss = .bk ρ := (rfl)
@[simp] theorem thn_ct (ρ : Rho) (G : Gam) (ss : List S) : (Res.ct ρ).thn G ss = .ct ρ := (rfl)
def Res.turn (r : Res) (f : D → Rho → Res) (ds : List D) : Res := match r with
  | .nx ρ' => forL f ds ρ'
  | .ct ρ' => forL f ds ρ'
  | .bk ρ' => .nx ρ'
  | r => r
section
variable (f : D → Rho → Res) (ds : List D) (ρ : Rho)
@[simp] theorem turn_nx : (Res.nx ρ).turn f ds = forL f ds ρ := (rfl)
@[simp] theorem turn_ct : (Res.ct ρ).turn f ds = forL f ds ρ := (rfl)
@[simp] theorem turn_bk : (Res.bk ρ).turn f ds = .nx ρ := (rfl)
@[simp] theorem turn_rt (t : T) : (Res.rt t ρ).turn f ds = .rt t ρ := (rfl)
@[simp] theorem turn_ex (c : Nat) (fs : List D) : (Res.ex c fs ρ).turn f ds = .ex c fs ρ := (rfl)
@[simp] theorem forL_nil : forL f [] ρ = .nx ρ := (rfl)
@[simp] theorem forL_cons (d : D) : forL f (d :: ds) ρ = (f d ρ).turn f ds := (rfl)
end
def toR {α : Type} (r : R α) (ρ : Rho) (f : α → Res) : Res := r.bindR ρ f
def asgR (own : Bool) (i : Nat) (ρ : Rho) : R T → Res
  | .ok t => .nx (ρ.set i (some (if own then t else .fz t.d)))
  | .ex c f => .ex c f ρ
  | .no => .no
@[simp] theorem asgR_T (i : Nat) (ρ : Rho) (t : T) : asgR true i ρ (.ok t) = .nx (ρ.set i (some t)) := (rfl)
@[simp] theorem asgR_F (i : Nat) (ρ : Rho) (t : T) : asgR false i ρ (.ok t) = .nx (ρ.set i (some (.fz t.d))) := (rfl)
@[simp] theorem asgR_ex (own : Bool) (i : Nat) (ρ : Rho) (c : Nat) (f : List D) : asgR own i ρ (.ex c f) = .ex c f ρ := (rfl)
def tasD (is : List Nat) (ρ : Rho) : D → Res
  | .tuple ds => (setIs is ds ρ).bindR ρ .nx
  | _ => .no
@[simp] theorem tasD_tup (is : List Nat) (ρ : Rho) (ds : List D) : tasD is ρ (.tuple ds) = (setIs is ds ρ).bindR ρ .nx := (rfl)
@[simp] theorem setIs_nil (ρ : Rho) : setIs [] [] ρ = .ok ρ := (rfl)
@[simp] theorem setIs_cons (i : Nat) (is : List Nat) (d : D) (ds : List D) (ρ : Rho) : setIs (i :: is) (d :: ds) ρ = setIs is ds (ρ.set i (some (.fz d))) := (rfl)
def tasV (is : List Nat) (ρ : Rho) : R T → Res
  | .ok t => tasD is ρ t.d
  | .ex c f => .ex c f ρ
  | .no => .no
@[simp] theorem tasV_ok (is : List Nat) (ρ : Rho) (t : T) : tasV is ρ (.ok t) = tasD is ρ t.d := (rfl)
def augR (i : Nat) (o : BinO) (ρ : Rho) : R Int → R T → Res
  | .ok a, .ok t => (augD o a t.d).bindR ρ fun n => .nx (ρ.set i (some (.fz (.int n))))
  | .ok _, .ex c f => .ex c f ρ
  | .ok _, .no => .no
  | .ex c f, _ => .ex c f ρ
  | .no, _ => .no
@[simp] theorem augR_add (i : Nat) (ρ : Rho) (a b : Int) : augR i .add ρ (.ok a) (.ok (.fz (.int b))) = .nx (ρ.set i (some (.fz (.int (a + b))))) := (rfl)
@[simp] theorem augR_sub (i : Nat) (ρ : Rho) (a b : Int) : augR i .sub ρ (.ok a) (.ok (.fz (.int b))) = .nx (ρ.set i (some (.fz (.int (a - b))))) := (rfl)
def appR (i : Nat) (ρ : Rho) : R (List T) → R T → Res
  | .ok ts, .ok t => if ts.length < sizeLine then .nx (ρ.set i (some (.lst (ts ++ [t])))) else .no
  | .ok _, .ex c f => .ex c f ρ
  | .ok _, .no => .no
  | .ex c f, _ => .ex c f ρ
  | .no, _ => .no
theorem appR_ok (i : Nat) (ρ : Rho) (ts : List T) (t : T) (h : ts.length < sizeLine) : appR i ρ (.ok ts) (.ok t) = .nx (ρ.set i (some (.lst (ts ++ [t])))) := if_pos h
def updR (i : Nat) (ρ : Rho) : R (List T) → R T → R T → Res
  | .ok ts, .ok t, .ok u => (ixD ts.length u.d).bindR ρ fun j => .nx (ρ.set i (some (.lst (ts.set j t))))
  | .ok _, .ok _, .ex c f => .ex c f ρ
  | .ok _, .ok _, .no => .no
  | .ok _, .ex c f, _ => .ex c f ρ
  | .ok _, .no, _ => .no
  | .ex c f, _, _ => .ex c f ρ
  | .no, _, _ => .no
theorem updR_ok (i : Nat) (ρ : Rho) (ts : List T) (t : T) (k : Int) (j : Nat) (h : ixN ts.length k = some j) : updR i ρ (.ok ts) (.ok t) (.ok (.fz (.int k))) = .nx (ρ.set i (some (.lst (ts.set j t)))) := by
  show (R.of (ixN ts.length k)).bindR ρ _ = _
  rw [h]
  rfl
def popR (j i : Nat) (ρ : Rho) : R (List T) → R T → Res
  | .ok ts, .ok u => (ixP ts.length u.d).bindR ρ fun n => (R.of ts[n]?).bindR ρ fun t => .nx ((ρ.set i (some (.lst (ts.eraseIdx n)))).set j (some t))
  | .ok _, .ex c f => .ex c f ρ
  | .ok _, .no => .no
  | .ex c f, _ => .ex c f ρ
  | .no, _ => .no
theorem popR_ok (j i : Nat) (ρ : Rho) (ts : List T) (k : Int) (n : Nat) (t : T) (h : ixN ts.length k = some n) (h2 : ts[n]? = some t) (h3 : -(2 ^ 62) ≤ k) (h4 : k < 2 ^ 62) : popR j i ρ (.ok ts) (.ok (.fz (.int k))) = .nx ((ρ.set i (some (.lst (ts.eraseIdx n)))).set j (some t)) := by
  show (if -(2 ^ 62) ≤ k ∧ k < 2 ^ 62 then R.of (ixN ts.length k) else .no : R Nat).bindR ρ _ = _
  rw [if_pos ⟨h3, h4⟩, h]
  show (R.of ts[n]?).bindR ρ _ = _
  rw [h2]
  rfl
def apopR (j i : Nat) (ρ : Rho) : R (List T) → R (List T) → R T → Res
  | .ok us, .ok ts, .ok u => (ixP ts.length u.d).bindR ρ fun n => (R.of ts[n]?).bindR ρ fun t => if us.length < sizeLine then .nx ((ρ.set i (some (.lst (ts.eraseIdx n)))).set j (some (.lst (us ++ [t])))) else .no
  | .ok _, .ok _, .ex c f => .ex c f ρ
  | .ok _, .ok _, .no => .no
  | .ok _, .ex c f, _ => .ex c f ρ
  | .ok _, .no, _ => .no
  | .ex c f, _, _ => .ex c f ρ
  | .no, _, _ => .no
theorem apopR_ok (j i : Nat) (ρ : Rho) (us ts : List T) (k : Int) (n : Nat) (t : T) (h : ixN ts.length k = some n) (h2 : ts[n]? = some t) (h3 : -(2 ^ 62) ≤ k) (h4 : k < 2 ^ 62) (hz : us.length < sizeLine) : apopR j i ρ (.ok us) (.ok ts) (.ok (.fz (.int k))) = .nx ((ρ.set i (some (.lst (ts.eraseIdx n)))).set j (some (.lst (us ++ [t])))) := by
  show (if -(2 ^ 62) ≤ k ∧ k < 2 ^ 62 then R.of (ixN ts.length k) else .no : R Nat).bindR ρ _ = _
  rw [if_pos ⟨h3, h4⟩, h]
  show (R.of ts[n]?).bindR ρ _ = _
  rw [h2]
  show (if us.length < sizeLine then (_ : Res) else .no) = _
  rw [if_pos hz]
def expR (ρ : Rho) : R T → Res
  | .ok _ => .nx ρ
  | .ex c f => .ex c f ρ
  | .no => .no
@[simp] theorem expR_ok (ρ : Rho) (t : T) : expR ρ (.ok t) = .nx ρ := (rfl)
@[simp] theorem expR_ex (ρ : Rho) (c : Nat) (f : List D) : expR ρ (.ex c f) = .ex c f ρ := (rfl)
def iteR (G : Gam) (a b : List S) (ρ : Rho) : R Bool → Res
  | .ok true => S.runs G a ρ
  | .ok false => S.runs G b ρ
  | .ex c f => .ex c f ρ
  | .no => .no
@[simp] theorem iteR_true (G : Gam) (a b : List S) (ρ : Rho) : iteR G a b ρ (.ok true) = S.runs G a ρ := (rfl)
@[simp] theorem iteR_false (G : Gam) (a b : List S) (ρ : Rho) : iteR G a b ρ (.ok false) = S.runs G b ρ := (rfl)
@[simp] theorem iteR_ex (G : Gam) (a b : List S) (ρ : Rho) (c : Nat) (f : List D) : iteR G a b ρ (.ex c f) = .ex c f ρ := (rfl)
def lpF (G : Gam) (tg : Tg) (body : List S) (d : D) (ρ : Rho) : Res := (tg.set d ρ).bindR ρ fun ρ' => S.runs G body ρ'
@[simp] theorem lpF_one (G : Gam) (i : Nat) (body : List S) (d : D) (ρ : Rho) : lpF G (.one i) body d ρ = S.runs G body (ρ.set i (some (.fz d))) := (rfl)
def lpT (G : Gam) (body : List S) (ρ : Rho) : R Rho → Res
  | .ok ρ' => S.runs G body ρ'
  | .ex c f => .ex c f ρ
  | .no => .no
@[simp] theorem lpT_ok (G : Gam) (body : List S) (ρ ρ' : Rho) : lpT G body ρ (.ok ρ') = S.runs G body ρ' := (rfl)
@[simp] theorem lpF_tup (G : Gam) (is : List Nat) (body : List S) (ds : List D) (ρ : Rho) : lpF G (.tup is) body (.tuple ds) ρ = lpT G body ρ (setIs is ds ρ) := by
  show (setIs is ds ρ).bindR ρ (fun ρ' => S.runs G body ρ') = _
  cases setIs is ds ρ <;> rfl
def forR (F : D → Rho → Res) (ρ : Rho) : R (List D) → Res
  | .ok ds => forL F ds ρ
  | .ex c f => .ex c f ρ
  | .no => .no
@[simp] theorem forR_ok (F : D → Rho → Res) (ρ : Rho) (ds : List D) : forR F ρ (.ok ds) = forL F ds ρ := (rfl)
@[simp] theorem forR_ex (F : D → Rho → Res) (ρ : Rho) (c : Nat) (f : List D) : forR F ρ (.ex c f) = .ex c f ρ := (rfl)
def retR (ρ ρ' : Rho) : R T → Res
  | .ok t => .rt t ρ'
  | .ex c f => .ex c f ρ
  | .no => .no
@[simp] theorem retR_ok (ρ ρ' : Rho) (t : T) : retR ρ ρ' (.ok t) = .rt t ρ' := (rfl)
@[simp] theorem retR_ex (ρ ρ' : Rho) (c : Nat) (f : List D) : retR ρ ρ' (.ex c f) = .ex c f ρ := (rfl)
def raisR (k : Nat) (ρ : Rho) : R (List T) → Res
  | .ok ts => .ex k (T.ds ts) ρ
  | .ex c f => .ex c f ρ
  | .no => .no
@[simp] theorem raisR_ok (k : Nat) (ρ : Rho) (ts : List T) : raisR k ρ (.ok ts) = .ex k (T.ds ts) ρ := (rfl)
def tryR (G : Gam) (h : S) : Res → Res
  | .ex c fs ρ => if G.cok c then S.hds G h c fs ρ else .no
  | r => r
@[simp] theorem tryR_nx (G : Gam) (h : S) (ρ : Rho) : tryR G h (.nx ρ) = .nx ρ := (rfl)
@[simp] theorem tryR_rt (G : Gam) (h : S) (t : T) (ρ : Rho) : tryR G h (.rt t ρ) = .rt t ρ := (rfl)
theorem tryR_ex (G : Gam) (h : S) (c : Nat) (fs : List D) (ρ : Rho) (k : G.cok c = true) : tryR G h (.ex c fs ρ) = S.hds G h c fs ρ := if_pos k
def hdR (b : Bool) (G : Gam) (o : Option Nat) (body : List S) (r : S) (c : Nat) (fs : List D) (ρ : Rho) : Res := if b then (S.runs (G.hot o c fs) body (hin o ρ)).hend o else S.hds G r c fs ρ
@[simp] theorem hdR_true (G : Gam) (o : Option Nat) (body : List S) (r : S) (c : Nat) (fs : List D) (ρ : Rho) : hdR true G o body r c fs ρ = (S.runs (G.hot o c fs) body (hin o ρ)).hend o := (rfl)
@[simp] theorem hdR_false (G : Gam) (o : Option Nat) (body : List S) (r : S) (c : Nat) (fs : List D) (ρ : Rho) : hdR false G o body r c fs ρ = S.hds G r c fs ρ := (rfl)
@[simp] theorem hds_hcons (G : Gam) (k : Nat) (o : Option Nat) (body : List S) (r : S) (c : Nat) (fs : List D) (ρ : Rho) : S.hds G (.hcons k o body r) c fs ρ = hdR (G.isub c k) G o body r c fs ρ := (rfl)
@[simp] theorem hds_hnil (G : Gam) (c : Nat) (fs : List D) (ρ : Rho) : S.hds G .hnil c fs ρ = .ex c fs ρ := (rfl)
@[simp] theorem hend_rt (o : Option Nat) (t : T) (ρ : Rho) : (Res.rt t ρ).hend o = .rt t ρ := (rfl)
@[simp] theorem hend_nx (o : Option Nat) (ρ : Rho) : (Res.nx ρ).hend o = .nx (hset o ρ) := (rfl)
@[simp] theorem hset_some (i : Nat) (ρ : Rho) : hset (some i) ρ = ρ.set i none := (rfl)
@[simp] theorem hset_none (ρ : Rho) : hset none ρ = ρ := (rfl)
@[simp] theorem hin_some (i : Nat) (ρ : Rho) : hin (some i) ρ = (ρ.map freezeT).set i none := (rfl)
@[simp] theorem hin_none (ρ : Rho) : hin none ρ = ρ.map freezeT := (rfl)
def lf1 : R T → R T
  | .ok t => if t.lf = true then .ok t else .no
  | .ex c f => .ex c f
  | .no => .no
theorem lf1_ok (t : T) (h : t.lf = true) : lf1 (.ok t) = .ok t := if_pos h
@[simp] theorem lf1_ex (c : Nat) (f : List D) : lf1 (.ex c f) = .ex c f := (rfl)
section
variable (G : Gam) (ρ : Rho)
@[simp] theorem evm_lf (p : P) : p.evm G .lf ρ = lf1 (p.ev G ρ) := by
  show (do let t ← p.ev G ρ; if t.lf = true then .ok t else .no : R T) = _
  cases p.ev G ρ <;> rfl
@[simp] theorem evm_dr (p : P) : p.evm G .dr ρ = p.ev G (drop ρ) := (rfl)
@[simp] theorem runs_nil : S.runs G [] ρ = .nx ρ := (rfl)
@[simp] theorem runs_cons (s : S) (ss : List S) : S.runs G (s :: ss) ρ = (S.run G s ρ).thn G ss := (rfl)
@[simp] theorem run_pas : S.run G .pas ρ = .nx ρ := (rfl)
@[simp] theorem run_brk : S.run G .brk ρ = .bk ρ := (rfl)
@[simp] theorem run_cnt : S.run G .cnt ρ = .ct ρ := (rfl)
@[simp] theorem run_asg (i : Nat) (p : P) (m : Md) (own : Bool) : S.run G (.asg i p m own) ρ = asgR own i ρ (p.evm G m ρ) := by
  show (p.evm G m ρ).bindR ρ (fun t => .nx (ρ.set i (some (if own then t else .fz t.d)))) = _
  cases p.evm G m ρ <;> rfl
@[simp] theorem run_tas (is : List Nat) (p : P) (m : Md) : S.run G (.tas is p m) ρ = tasV is ρ (p.evm G m ρ) := by
  show (p.evm G m ρ).bindR ρ (fun t => match t.d with
    | .tuple ds => (setIs is ds ρ).bindR ρ .nx
    | _ => .no) = _
  cases p.evm G m ρ with
  | ok t =>
    show (match t.d with
      | .tuple ds => (setIs is ds ρ).bindR ρ .nx
      | _ => .no) = tasD is ρ t.d
    cases t.d <;> rfl
  | ex _ _ => rfl
  | no => rfl
@[simp] theorem run_aug (i : Nat) (o : BinO) (p : P) : S.run G (.aug i o p) ρ = augR i o ρ (slotI ρ i) (p.ev G ρ) := by
  show (slotI ρ i).bindR ρ (fun a => (p.ev G ρ).bindR ρ fun t => (augD o a t.d).bindR ρ fun n => .nx (ρ.set i (some (.fz (.int n))))) = _
  cases slotI ρ i <;> cases p.ev G ρ <;> rfl
@[simp] theorem run_app (i : Nat) (p : P) (m : Md) : S.run G (.app i p m) ρ = appR i ρ (slotL ρ i) (p.evm G m ρ) := by
  show (slotL ρ i).bindR ρ (fun ts => (p.evm G m ρ).bindR ρ fun t => if ts.length < sizeLine then .nx (ρ.set i (some (.lst (ts ++ [t])))) else .no) = _
  cases slotL ρ i <;> cases p.evm G m ρ <;> rfl
@[simp] theorem run_updt (i : Nat) (q p : P) (m : Md) : S.run G (.updt i q p m) ρ = updR i ρ (slotL ρ i) (p.evm G m ρ) (q.ev G ρ) := by
  show (slotL ρ i).bindR ρ (fun ts => (p.evm G m ρ).bindR ρ fun t => (q.ev G ρ).bindR ρ fun u => (ixD ts.length u.d).bindR ρ fun j => .nx (ρ.set i (some (.lst (ts.set j t))))) = _
  cases slotL ρ i <;> cases p.evm G m ρ <;> cases q.ev G ρ <;> rfl
@[simp] theorem run_popi (j i : Nat) (p : P) : S.run G (.popi j i p) ρ = popR j i ρ (slotL ρ i) (p.ev G ρ) := by
  show (slotL ρ i).bindR ρ (fun ts => (p.ev G ρ).bindR ρ fun u => (ixP ts.length u.d).bindR ρ fun n => (R.of ts[n]?).bindR ρ fun t => .nx ((ρ.set i (some (.lst (ts.eraseIdx n)))).set j (some t))) = _
  cases slotL ρ i <;> cases p.ev G ρ <;> rfl
@[simp] theorem run_apop (j i : Nat) (p : P) : S.run G (.apop j i p) ρ = apopR j i ρ (slotL ρ j) (slotL ρ i) (p.ev G ρ) := by
  show ((slotL ρ j).bindR ρ fun us => (slotL ρ i).bindR ρ fun ts => (p.ev G ρ).bindR ρ fun u => (ixP ts.length u.d).bindR ρ fun n => (R.of ts[n]?).bindR ρ fun t => if us.length < sizeLine then .nx ((ρ.set i (some (.lst (ts.eraseIdx n)))).set j (some (.lst (us ++ [t])))) else .no) = _
  cases slotL ρ j with
  | ok us =>
    cases slotL ρ i with
    | ok ts => cases p.ev G ρ <;> rfl
    | ex _ _ => rfl
    | no => rfl
  | ex _ _ => rfl
  | no => rfl
@[simp] theorem run_expr (p : P) : S.run G (.expr p) ρ = expR ρ (p.ev G ρ) := by
  show (p.ev G ρ).bindR ρ (fun _ => .nx ρ) = _
  cases p.ev G ρ <;> rfl
@[simp] theorem run_ite (c : P) (a b : List S) : S.run G (.ite c a b) ρ = iteR G a b ρ (tst1 (c.ev G ρ)) := by
  show (c.tst G ρ).bindR ρ (fun z => if z = true then S.runs G a ρ else S.runs G b ρ) = _
  rw [tst_eq]
  cases tst1 (c.ev G ρ) with
  | ok z => cases z <;> rfl
  | ex _ _ => rfl
  | no => rfl
@[simp] theorem run_for (tg : Tg) (k : IK) (its : List P) (body : List S) : S.run G (.for1 tg k its body) ρ = forR (lpF G tg body) ρ (itemsM G k its ρ) := by
  show (itemsM G k its ρ).bindR ρ (fun ds => forL (lpF G tg body) ds ρ) = _
  cases itemsM G k its ρ <;> rfl
@[simp] theorem run_whl (c : P) (body : List S) : S.run G (.whl c body) ρ = whlL (c.tst G) (S.runs G body) fuelN ρ := (rfl)
@[simp] theorem run_ret (p : P) : S.run G (.ret p .full) ρ = retR ρ (ρ.map fun _ => none) (p.ev G ρ) := by
  show (p.ev G ρ).bindR ρ (fun t => .rt t (ρ.map fun _ => none)) = _
  cases p.ev G ρ <;> rfl
@[simp] theorem run_retm (i : Nat) : S.run G (.retm i) ρ = retR ρ (ρ.set i none) (slotT ρ i) := by
  show (slotT ρ i).bindR ρ (fun t => .rt t (ρ.set i none)) = _
  cases slotT ρ i <;> rfl
@[simp] theorem run_retN : S.run G .retN ρ = .rt (.fz .none) ρ := (rfl)
@[simp] theorem run_rais (c : Nat) (ps : List P) : S.run G (.rais c ps) ρ = raisR c ρ (P.evs G ps ρ) := by
  show (P.evs G ps ρ).bindR ρ (fun ts => .ex c (T.ds ts) ρ) = _
  cases P.evs G ps ρ <;> rfl
@[simp] theorem run_frz (i : Nat) (s : S) : S.run G (.frz i s) ρ = S.run G s (ρ.set i (freezeT (ρ[i]?.getD none))) := (rfl)
@[simp] theorem run_try (b : List S) (h : S) : S.run G (.tryx b h) ρ = tryR G h (S.runs G b ρ) := by
  show (match S.runs G b ρ with
    | .ex c fs ρ' => if G.cok c then S.hds G h c fs ρ' else .no
    | r => r) = _
  cases S.runs G b ρ <;> rfl
end
@[simp] theorem drop_nil : drop [] = [] := (rfl)
@[simp] theorem drop_cons (x : Option T) (ρ : Rho) : drop (x :: ρ) = dropT x :: drop ρ := (rfl)
@[simp] theorem dropT_none : dropT none = none := (rfl)
@[simp] theorem dropT_fz (d : D) : dropT (some (.fz d)) = some (.fz d) := (rfl)
@[simp] theorem dropT_lst (ts : List T) : dropT (some (.lst ts)) = none := (rfl)
@[simp] theorem dropT_tup (ts : List T) : dropT (some (.tup ts)) = none := (rfl)
@[simp] theorem freezeT_some (t : T) : freezeT (some t) = some (.fz t.d) := (rfl)
@[simp] theorem freezeT_none : freezeT none = none := (rfl)
@[simp] theorem T.d_fz (d : D) : (T.fz d).d = d := (rfl)
@[simp] theorem T.d_lst (ts : List T) : (T.lst ts).d = .list (T.ds ts) := (rfl)
@[simp] theorem T.d_tup (ts : List T) : (T.tup ts).d = .tuple (T.ds ts) := (rfl)
@[simp] theorem T.ds_nil : T.ds [] = [] := (rfl)
@[simp] theorem T.ds_cons (t : T) (ts : List T) : T.ds (t :: ts) = t.d :: T.ds ts := (rfl)
@[simp] theorem T.ds_app (ts us : List T) : T.ds (ts ++ us) = T.ds ts ++ T.ds us := by simp [T.ds_map]
@[simp] theorem T.ds_fzs (ds : List D) : T.ds (fzs ds) = ds := by simp [T.ds_map, fzs, T.d_fz, Function.comp_def]
@[simp] theorem fzs_nil : fzs [] = [] := (rfl)
@[simp] theorem fzs_cons (d : D) (ds : List D) : fzs (d :: ds) = .fz d :: fzs ds := (rfl)
@[simp] theorem fzs_len (ds : List D) : (fzs ds).length = ds.length := by simp [fzs]
theorem fzs_app (ds es : List D) : fzs (ds ++ es) = fzs ds ++ fzs es := by simp [fzs]
@[simp] theorem slotI_def (ρ : Rho) (i : Nat) (a : Int) (h : ρ[i]? = some (some (.fz (.int a)))) : slotI ρ i = .ok a := by unfold slotI; rw [h]
@[simp] theorem slotL_def (ρ : Rho) (i : Nat) (a : List T) (h : ρ[i]? = some (some (.lst a))) : slotL ρ i = .ok a := by unfold slotL; rw [h]
@[simp] theorem slotT_def (ρ : Rho) (i : Nat) (a : T) (h : ρ[i]? = some (some a)) : slotT ρ i = .ok a := by unfold slotT; rw [h]
@[simp] theorem tg_one (i : Nat) (d : D) (ρ : Rho) : (Tg.one i).set d ρ = .ok (ρ.set i (some (.fz d))) := (rfl)
@[simp] theorem tg_tup (is : List Nat) (ds : List D) (ρ : Rho) : (Tg.tup is).set (.tuple ds) ρ = setIs is ds ρ := (rfl)
@[simp] theorem itemsD_list (ds : List D) : itemsD (.list ds) = .ok ds := (rfl)
@[simp] theorem itemsD_tuple (ds : List D) : itemsD (.tuple ds) = .ok ds := (rfl)
@[simp] theorem truD_bool (b : Bool) : truD (.bool b) = .ok b := (rfl)
theorem rng_ok (n : Nat) (h : (n : Int) < 2 ^ 62) : rngD 0 n = .ok ((List.range n).map fun (k : Nat) => .int (k : Int)) := by
  unfold rngD
  rw [if_pos ⟨by omega, by omega, by omega, h⟩]
  simp
section
variable (c : Bool)
@[simp] theorem bi_len_l (ds : List D) : biD c .len [.list ds] = .ok (.fz (.int ds.length)) := (rfl)
@[simp] theorem bi_len_t (ds : List D) : biD c .len [.tuple ds] = .ok (.fz (.int ds.length)) := (rfl)
@[simp] theorem bi_len_s (x : Str) : biD c .len [.str x] = .ok (.fz (.int x.length)) := (rfl)
@[simp] theorem bi_int_i (i : Int) : biD c .int [.int i] = .ok (.fz (.int i)) := (rfl)
@[simp] theorem bi_int_b (b : Bool) : biD c .int [.bool b] = .ok (.fz (.int (if b then 1 else 0))) := (rfl)
@[simp] theorem bi_abs (i : Int) : biD c .abs [.int i] = .ok (.fz (.int (if i < 0 then -i else i))) := (rfl)
@[simp] theorem bi_list_l (ds : List D) : biD c .list [.list ds] = .ok (.lst (fzs ds)) := (rfl)
@[simp] theorem bi_list_t (ds : List D) : biD c .list [.tuple ds] = .ok (.lst (fzs ds)) := (rfl)
@[simp] theorem bi_tuple_l (ds : List D) : biD c .tuple [.list ds] = .ok (.fz (.tuple ds)) := (rfl)
@[simp] theorem bi_tuple_t (ds : List D) : biD c .tuple [.tuple ds] = .ok (.fz (.tuple ds)) := (rfl)
theorem bi_sorted_l (ns : List Int) {ds : List D} (h : intsOf ds = some ns) : biD c .sorted [.list ds] = .ok (.lst (fzs ((sortI ns).map .int))) := by
  show (do let ns ← R.of (intsOf ds); return .lst (fzs ((sortI ns).map .int)) : R T) = _
  rw [h]
  rfl
theorem bi_sorted_t (ns : List Int) {ds : List D} (h : intsOf ds = some ns) : biD c .sorted [.tuple ds] = .ok (.lst (fzs ((sortI ns).map .int))) := by
  show (do let ns ← R.of (intsOf ds); return .lst (fzs ((sortI ns).map .int)) : R T) = _
  rw [h]
  rfl
theorem bi_maxD (d : D) (ds : List D) (h : sdOk (d :: ds) = true) : biD true .maxD [.list (d :: ds)] = .ok (.fz (PySem.W.maxD d ds)) := if_pos h
theorem bi_sortedD (ds : List D) (h : sdOk ds = true) : biD c .sortedD [.list ds] = .ok (.lst (fzs (sortD ds))) := if_pos h
theorem bi_sortedR_t (ns : List Int) {ds : List D} (h : intsOf ds = some ns) : biD c .sortedR [.tuple ds] = .ok (.lst (fzs ((sortI ns).reverse.map .int))) := by
  show (do let ns ← R.of (intsOf ds); return .lst (fzs ((sortI ns).reverse.map .int)) : R T) = _
  rw [h]
  rfl
@[simp] theorem bi_all (bs : List Bool) : biD true .all [.list (bs.map .bool)] = .ok (.fz (.bool (bs.all id))) := by
  show (do return .fz (.bool ((← R.of (boolsOf (bs.map .bool))).all id)) : R T) = _
  rw [boolsOf_map]
  rfl
@[simp] theorem bi_max2 (i j : Int) : biD true .max2 [.int i, .int j] = .ok (.fz (.int (if j > i then j else i))) := (rfl)
@[simp] theorem bi_min2 (i j : Int) : biD true .min2 [.int i, .int j] = .ok (.fz (.int (if j < i then j else i))) := (rfl)
end
@[simp] theorem bt_add (a b : Int) : binT .add (.fz (.int a)) (.int b) = .ok (.fz (.int (a + b))) := (rfl)
@[simp] theorem bt_sub (a b : Int) : binT .sub (.fz (.int a)) (.int b) = .ok (.fz (.int (a - b))) := (rfl)
theorem bt_mul (a b : Int) (h : mulOk a b = true) : binT .mul (.fz (.int a)) (.int b) = .ok (.fz (.int (a * b))) := by
  show (if mulOk a b = true then (.ok (.fz (.int (a * b))) : R T) else .no) = _
  rw [if_pos h]
theorem bt_mod (a b : Int) (h : 0 < b) : binT .mod (.fz (.int a)) (.int b) = .ok (.fz (.int (a % b))) := by
  show (if 0 < b then (.ok (.fz (.int (a % b))) : R T) else .no) = _
  rw [if_pos h]
theorem bt_fdiv (a b : Int) (h : 0 < b) (h2 : b < 1267650600228229401496703205376) : binT .fdiv (.fz (.int a)) (.int b) = .ok (.fz (.int (a / b))) := by
  show (if 0 < b ∧ b < 1267650600228229401496703205376 then (.ok (.fz (.int (a / b))) : R T) else .no) = _
  rw [if_pos ⟨h, h2⟩]
@[simp] theorem ci_lt (a b : Int) : cmpD .lt (.int a) (.int b) = .ok (decide (a < b)) := (rfl)
@[simp] theorem ci_le (a b : Int) : cmpD .le (.int a) (.int b) = .ok (decide (a ≤ b)) := (rfl)
@[simp] theorem ci_gt (a b : Int) : cmpD .gt (.int a) (.int b) = .ok (decide (b < a)) := (rfl)
@[simp] theorem ci_ge (a b : Int) : cmpD .ge (.int a) (.int b) = .ok (decide (b ≤ a)) := (rfl)
@[simp] theorem ci_eq (a b : Int) : cmpD .eq (.int a) (.int b) = .ok (decide (a = b)) := by
  rw [Bool.eq_iff_iff.mpr (show (decide (a = b) = true) ↔ ((a == b) = true) by simp)]
  rfl
@[simp] theorem ci_ne (a b : Int) : cmpD .ne (.int a) (.int b) = .ok (!decide (a = b)) := by
  rw [Bool.eq_iff_iff.mpr (show (decide (a = b) = true) ↔ ((a == b) = true) by simp)]
  rfl
@[simp] theorem ci_isN (d : D) : cmpD .is d .none = .ok (match d with | .none => true | _ => false) := (rfl)
@[simp] theorem compL_nl (f : D → R (Option T)) : compL f [] = .ok [] := (rfl)
def optCons (o : Option T) (ts : List T) : List T := match o with
  | some t => t :: ts
  | none => ts
@[simp] theorem optCons_some (t : T) (ts : List T) : optCons (some t) ts = t :: ts := (rfl)
@[simp] theorem optCons_none (ts : List T) : optCons none ts = ts := (rfl)
@[simp] theorem compL_cs (f : D → R (Option T)) (d : D) (ds : List D) : compL f (d :: ds) = (do let t ← f d; let ts ← compL f ds; return optCons t ts) := by
  show (do
    let t ← f d
    let ts ← compL f ds
    match t with
    | some t => return t :: ts
    | none => return ts : R (List T)) = _
  cases f d with
  | ok t =>
    cases compL f ds with
    | ok ts => cases t <;> rfl
    | ex _ _ => rfl
    | no => rfl
  | ex _ _ => rfl
  | no => rfl
theorem runs_app (G : Gam) : ∀ (ss us : List S) (ρ : Rho), S.runs G (ss ++ us) ρ = (S.runs G ss ρ).thn G us
  | [], us, ρ => rfl
  | s :: ss, us, ρ => by
    rw [List.cons_append, runs_cons, runs_cons]
    cases S.run G s ρ with
    | nx ρ' => exact runs_app G ss us ρ'
    | _ => rfl
@[simp] theorem thn_thn (r : Res) (G : Gam) (ss us : List S) : (r.thn G ss).thn G us = r.thn G (ss ++ us) := by
  cases r with
  | nx ρ => exact (runs_app G ss us ρ).symm
  | _ => rfl

theorem thn_nil {G : Gam} (r : Res) : r.thn G [] = r := by cases r <;> rfl

/-! ### what a body promises -/
def Sat (r : Res) (N C B : Rho → Prop) (V : T → Prop) (E : Nat → List D → Prop) : Prop := match r with
  | .nx ρ => N ρ
  | .ct ρ => C ρ
  | .bk ρ => B ρ
  | .rt t _ => V t
  | .ex c fs _ => E c fs
  | .no => False
section
variable {N C B : Rho → Prop} {V : T → Prop} {E : Nat → List D → Prop}
@[simp] theorem sat_nx (ρ : Rho) : Sat (.nx ρ) N C B V E ↔ N ρ := (Iff.rfl)
@[simp] theorem sat_ct (ρ : Rho) : Sat (.ct ρ) N C B V E ↔ C ρ := (Iff.rfl)
@[simp] theorem sat_bk (ρ : Rho) : Sat (.bk ρ) N C B V E ↔ B ρ := (Iff.rfl)
@[simp] theorem sat_rt (t : T) (ρ : Rho) : Sat (.rt t ρ) N C B V E ↔ V t := (Iff.rfl)
@[simp] theorem sat_ex (c : Nat) (fs : List D) (ρ : Rho) : Sat (.ex c fs ρ) N C B V E ↔ E c fs := (Iff.rfl)
theorem sat_thn {r : Res} {G : Gam} {ss : List S} (h : Sat r (fun ρ => Sat (S.runs G ss ρ) N C B V E) C B V E) : Sat (r.thn G ss) N C B V E := by
  cases r <;> exact h
theorem sat_mono {r : Res} {N' C' B' : Rho → Prop} {V' : T → Prop} {E' : Nat → List D → Prop} (h : Sat r N C B V E) (n : ∀ ρ, N ρ → N' ρ) (c : ∀ ρ, C ρ → C' ρ) (b : ∀ ρ, B ρ → B' ρ) (v : ∀ t, V t → V' t) (e : ∀ k fs, E k fs → E' k fs) : Sat r N' C' B' V' E' := by
  cases r with
  | nx ρ => exact n _ h
  | ct ρ => exact c _ h
  | bk ρ => exact b _ h
  | rt t ρ => exact v _ h
  | ex k fs ρ => exact e _ _ h
  | no => exact h
/-- a loop over a list of things: what holds when some are done -/
theorem sat_forL {α : Type} {F : D → Rho → Res} {e : α → D} (I : List α → Rho → Prop) : ∀ (rest done : List α) (ρ : Rho), I done ρ → (∀ (d : List α) (x : α) (r : List α) (ρ : Rho), done ++ rest = d ++ x :: r → I d ρ → Sat (F (e x) ρ) (I (d ++ [x])) (I (d ++ [x])) N V E) →
    (∀ ρ, I (done ++ rest) ρ → N ρ) → Sat (forL F (rest.map e) ρ) N C B V E
  | [], done, ρ, h, _, k => by
    rw [List.append_nil] at k
    exact k ρ h
  | x :: rest, done, ρ, h, s, k => by
    rw [List.map_cons, forL_cons]
    have q := s done x rest ρ rfl h
    have next : ∀ ρ', I (done ++ [x]) ρ' → Sat (forL F (rest.map e) ρ') N C B V E := fun ρ' h' => by
      refine sat_forL I rest (done ++ [x]) ρ' h' (fun d y r ρ e1 => s d y r ρ (by rw [← e1]; simp)) (fun ρ h2 => k ρ (by simpa using h2))
    cases er : F (e x) ρ with
    | nx ρ' => rw [er] at q; exact next ρ' q
    | ct ρ' => rw [er] at q; exact next ρ' q
    | bk ρ' => rw [er] at q; exact q
    | rt t ρ' => rw [er] at q; exact q
    | ex c fs ρ' => rw [er] at q; exact q
    | no => rw [er] at q; exact q
/-- .. with the statements behind it -/
theorem sat_loop {α : Type} {F : D → Rho → Res} {e : α → D} {G : Gam} {ss : List S} {xs : List α} {ρ : Rho} (I : List α → Rho → Prop) (h : I [] ρ)
    (s : ∀ (d : List α) (x : α) (r : List α) (ρ : Rho), xs = d ++ x :: r → I d ρ → Sat (F (e x) ρ) (I (d ++ [x])) (I (d ++ [x])) (fun ρ => Sat (S.runs G ss ρ) N C B V E) V E)
    (k : ∀ ρ, I xs ρ → Sat (S.runs G ss ρ) N C B V E) : Sat ((forL F (xs.map e) ρ).thn G ss) N C B V E :=
  sat_thn (sat_forL I xs [] ρ h (fun d x r ρ z => s d x r ρ z) (fun ρ z => k ρ z))
/-- .. that carries nothing -/
theorem sat_all {α : Type} {F : D → Rho → Res} {e : α → D} {G : Gam} {ss : List S} {xs : List α} {ρ : Rho} (I : Rho → Prop) (h : I ρ)
    (s : ∀ x ∈ xs, ∀ ρ, I ρ → Sat (F (e x) ρ) I I (fun ρ => Sat (S.runs G ss ρ) N C B V E) V E) (k : ∀ ρ, I ρ → Sat (S.runs G ss ρ) N C B V E) : Sat ((forL F (xs.map e) ρ).thn G ss) N C B V E :=
  sat_loop (fun _ => I) h (fun d x r ρ z => s x (by rw [z]; simp) ρ) k
theorem sat_allD {F : D → Rho → Res} {G : Gam} {ss : List S} {ds : List D} {ρ : Rho} (I : Rho → Prop) (h : I ρ)
    (s : ∀ x ∈ ds, ∀ ρ, I ρ → Sat (F x ρ) I I (fun ρ => Sat (S.runs G ss ρ) N C B V E) V E) (k : ∀ ρ, I ρ → Sat (S.runs G ss ρ) N C B V E) : Sat ((forL F ds ρ).thn G ss) N C B V E := by
  have := sat_all (F := F) (e := id) (G := G) (ss := ss) (xs := ds) (ρ := ρ) I h s k
  rwa [List.map_id] at this
end
theorem body_sat {G : Gam} {n a : Nat} {b : List S} {ts : List T} {t : T} (h : Sat (S.runs G b (initR n ts)) (fun _ => .fz .none = t) (fun _ => False) (fun _ => False) (fun u => u = t) (fun _ _ => False)) (hio : G.io = []) (hl : ts.length = a) (hf : ioB [] 0 ts = true) : S.body G n a b ts = .ok (t, []) := by
  unfold S.body
  rw [hio, if_pos ⟨hl, hf⟩]
  cases er : S.runs G b (initR n ts) with
  | nx ρ => rw [er] at h; cases (show T.fz .none = t from h); rfl
  | rt u ρ => rw [er] at h; cases (show u = t from h); rfl
  | ct _ => rw [er] at h; exact h.elim
  | bk _ => rw [er] at h; exact h.elim
  | ex _ _ _ => rw [er] at h; exact h.elim
  | no => rw [er] at h; exact h.elim
theorem body_ex {G : Gam} {n a : Nat} {b : List S} {ts : List T} {c : Nat} {fs : List D} (h : Sat (S.runs G b (initR n ts)) (fun _ => False) (fun _ => False) (fun _ => False) (fun _ => False) (fun k gs => k = c ∧ gs = fs)) (hio : G.io = []) (hl : ts.length = a) (hf : ioB [] 0 ts = true) : S.body G n a b ts = .ex c fs := by
  unfold S.body
  rw [hio, if_pos ⟨hl, hf⟩]
  cases er : S.runs G b (initR n ts) with
  | ex k gs ρ => rw [er] at h; obtain ⟨rfl, rfl⟩ := (show k = c ∧ gs = fs from h); rfl
  | nx _ => rw [er] at h; exact h.elim
  | rt _ _ => rw [er] at h; exact h.elim
  | ct _ => rw [er] at h; exact h.elim
  | bk _ => rw [er] at h; exact h.elim
  | no => rw [er] at h; exact h.elim
theorem body_some {G : Gam} {n a : Nat} {b : List S} {ts : List T} {V : T → Prop} (h : Sat (S.runs G b (initR n ts)) (fun _ => V (.fz .none)) (fun _ => False) (fun _ => False) V (fun _ _ => False)) (hio : G.io = []) (hl : ts.length = a) (hf : ioB [] 0 ts = true) : ∃ t, S.body G n a b ts = .ok (t, []) ∧ V t := by
  unfold S.body
  rw [hio, if_pos ⟨hl, hf⟩]
  cases er : S.runs G b (initR n ts) with
  | nx ρ => rw [er] at h; exact ⟨_, rfl, h⟩
  | rt u ρ => rw [er] at h; exact ⟨_, rfl, h⟩
  | ct _ => rw [er] at h; exact h.elim
  | bk _ => rw [er] at h; exact h.elim
  | ex _ _ _ => rw [er] at h; exact h.elim
  | no => rw [er] at h; exact h.elim
theorem bodyx_sat {G : Gam} {n : Nat} {b : List S} {t : T} (h : Sat (S.runs G b (List.replicate n none)) (fun _ => .fz .none = t) (fun _ => False) (fun _ => False) (fun u => u = t) (fun _ _ => False)) : S.bodyx G n b = .ok t := by
  unfold S.bodyx
  cases er : S.runs G b (List.replicate n none) with
  | nx ρ => rw [er] at h; cases (show T.fz .none = t from h); rfl
  | rt u ρ => rw [er] at h; cases (show u = t from h); rfl
  | ct _ => rw [er] at h; exact h.elim
  | bk _ => rw [er] at h; exact h.elim
  | ex _ _ _ => rw [er] at h; exact h.elim
  | no => rw [er] at h; exact h.elim
/-- a program's context at a level -/
def Tab.gm (t : Tab) (k : Nat) (io : List Nat) : Gam := ⟨t.consts.map (·.2), t.call k, t.isub, true, io, none, t.cok, t.xf, t.fx, t.fh⟩
section
variable (t : Tab) (k : Nat) (io : List Nat)
@[simp] theorem gm_fn : (t.gm k io).fn = t.call k := (rfl)
@[simp] theorem gm_calm : (t.gm k io).calm = true := (rfl)
@[simp] theorem gm_isub : (t.gm k io).isub = t.isub := (rfl)
@[simp] theorem gm_cok : (t.gm k io).cok = t.cok := (rfl)
@[simp] theorem gm_xf : (t.gm k io).xf = t.xf := (rfl)
@[simp] theorem gm_fh : (t.gm k io).fh = t.fh := (rfl)
@[simp] theorem gm_fx : (t.gm k io).fx = t.fx := (rfl)
@[simp] theorem gm_hx : (t.gm k io).hx = none := (rfl)
@[simp] theorem gm_comp (ρ : Rho) (elt : P) (i : Nat) (kk : IK) (its cond : List P) : P.ev (t.gm k io) (.comp elt i kk its cond) ρ = comp1 (cpF (t.gm k io) elt i cond ρ) (itsR (t.gm k io) ρ kk its) := ev_comp _ _ _ _ _ _ _ rfl
variable (G : Gam) (o : Option Nat) (i c : Nat) (fs : List D)
@[simp] theorem hot_hx : (G.hot (some i) c fs).hx = some (c, fs) := (rfl)
@[simp] theorem hot_isub : (G.hot o c fs).isub = G.isub := (rfl)
@[simp] theorem hot_xf : (G.hot o c fs).xf = G.xf := (rfl)
@[simp] theorem hot_fh : (G.hot o c fs).fh = G.fh := (rfl)
@[simp] theorem hot_fx : (G.hot o c fs).fx = G.fx := (rfl)
@[simp] theorem hot_calm : (G.hot o c fs).calm = false := (rfl)
@[simp] theorem gamx_hx : (t.gamx c fs).hx = some (c, fs) := (rfl)
@[simp] theorem gamx_isub : (t.gamx c fs).isub = t.isub := (rfl)
@[simp] theorem gamx_xf : (t.gamx c fs).xf = t.xf := (rfl)
@[simp] theorem gamx_calm : (t.gamx c fs).calm = false := (rfl)
end
section
variable {α β : Type}
/-- a comprehension over a list of things -/
theorem compL_map (F : D → R (Option T)) (e : α → D) (g : α → Option T) : ∀ (xs : List α), (∀ x ∈ xs, F (e x) = .ok (g x)) → compL F (xs.map e) = .ok (xs.filterMap g)
  | [], _ => rfl
  | x :: xs, h => by
    rw [List.map_cons, compL_cs, h x (by simp), compL_map F e g xs fun y hy => h y (by simp [hy])]
    cases e1 : g x <;> simp [optCons, e1]
end
section
variable {α : Type} {N C B : Rho → Prop} {V : T → Prop} {E : Nat → List D → Prop}
/-- a loop's first turns -/
theorem sat_forL_pre {F : D → Rho → Res} {e : α → D} : ∀ (xs : List α) (ds : List D) (I : Rho → Prop) (ρ : Rho), I ρ → (∀ x ∈ xs, ∀ ρ, I ρ → Sat (F (e x) ρ) I I N V E) → (∀ ρ, I ρ → Sat (forL F ds ρ) N C B V E) → Sat (forL F (xs.map e ++ ds) ρ) N C B V E
  | [], ds, I, ρ, h, _, k => k ρ h
  | x :: xs, ds, I, ρ, h, s, k => by
    rw [List.map_cons, List.cons_append, forL_cons]
    have q := s x (by simp) ρ h
    have next : ∀ ρ', I ρ' → Sat (forL F (xs.map e ++ ds) ρ') N C B V E := fun ρ' h' => sat_forL_pre xs ds I ρ' h' (fun y hy => s y (by simp [hy])) k
    cases er : F (e x) ρ with
    | nx ρ' => rw [er] at q; exact next ρ' q
    | ct ρ' => rw [er] at q; exact next ρ' q
    | bk ρ' => rw [er] at q; exact q
    | rt t ρ' => rw [er] at q; exact q
    | ex c fs ρ' => rw [er] at q; exact q
    | no => rw [er] at q; exact q
/-- a comprehension with a condition over a list of things -/
theorem compL_filter (F : D → R (Option T)) (e : α → D) (g : α → D) (p : α → Bool) (xs : List α) (h : ∀ x ∈ xs, F (e x) = .ok (onIf (p x) (.fz (g x)))) : compL F (xs.map e) = .ok (fzs ((xs.filter p).map g)) := by
  rw [compL_map F e (fun x => onIf (p x) (.fz (g x))) xs h]
  congr 1
  induction xs with
  | nil => rfl
  | cons x xs ih =>
    have ih := ih fun y hy => h y (by simp [hy])
    cases e : p x <;> simp [onIf, e] <;> exact ih
theorem compL_all (F : D → R (Option T)) (e : α → D) (g : α → D) (xs : List α) (h : ∀ x ∈ xs, F (e x) = .ok (some (.fz (g x)))) : compL F (xs.map e) = .ok (fzs (xs.map g)) := by
  rw [compL_map F e (fun x => some (.fz (g x))) xs h]
  simp [fzs, Function.comp_def]
end
end Gn

set_option Elab.async false
set_option linter.all false
set_option maxRecDepth 100000
set_option maxHeartbeats 1000000
namespace Gn
open PySem PySem.Spec PyProof.Rows L2

/-! ### data: sizes, comparisons, places -/
@[simp] theorem dp_none : PyData.depth .none = 0 := by simp [PyData.depth]
@[simp] theorem dp_bool (b : Bool) : PyData.depth (.bool b) = 0 := by simp [PyData.depth]
@[simp] theorem dp_int (b : Int) : PyData.depth (.int b) = 0 := by simp [PyData.depth]
@[simp] theorem dp_str (b : Str) : PyData.depth (.str b) = 0 := by simp [PyData.depth]
@[simp] theorem dp_tuple (ds : List D) : PyData.depth (.tuple ds) = 1 + PyData.depthAll ds := by simp [PyData.depth, Nat.add_comm]
@[simp] theorem dp_list (ds : List D) : PyData.depth (.list ds) = 1 + PyData.depthAll ds := by simp [PyData.depth, Nat.add_comm]
@[simp] theorem dp_nil : PyData.depthAll [] = 0 := by simp [PyData.depthAll]
@[simp] theorem dp_cons (d : D) (ds : List D) : PyData.depthAll (d :: ds) = max d.depth (PyData.depthAll ds) := by simp [PyData.depthAll]
theorem dp_app (ds es : List D) : PyData.depthAll (ds ++ es) = max (PyData.depthAll ds) (PyData.depthAll es) := by
  induction ds with
  | nil => simp
  | cons d ds ih => simp [ih, Nat.max_assoc]
theorem dp_all {n : Nat} : ∀ {ds : List D}, (∀ d ∈ ds, d.depth ≤ n) → PyData.depthAll ds ≤ n
  | [], _ => by simp
  | d :: ds, h => by
    have h1 := h d (by simp)
    have h2 := dp_all (n := n) (ds := ds) fun e he => h e (by simp [he])
    simp
    omega
theorem dp_map {α : Type} {e : α → D} {n : Nat} {xs : List α} (h : ∀ x ∈ xs, (e x).depth ≤ n) : PyData.depthAll (xs.map e) ≤ n := dp_all fun d hd => by
  obtain ⟨x, hx, rfl⟩ := List.mem_map.mp hd
  exact h x hx
theorem ce_eq (d e : D) (h : d.depth ≤ 64) (k : e.depth ≤ 64) (n1 : nd d = true := by rfl) (n2 : nd e = true := by rfl) : cmpD .eq d e = .ok (PyData.eqv d e) := if_pos ⟨⟨h, k⟩, n1, n2⟩
theorem ce_ne (d e : D) (h : d.depth ≤ 64) (k : e.depth ≤ 64) (n1 : nd d = true := by rfl) (n2 : nd e = true := by rfl) : cmpD .ne d e = .ok (!PyData.eqv d e) := by
  show (do return !(← eqD d e) : R Bool) = _
  unfold eqD
  rw [if_pos ⟨⟨h, k⟩, n1, n2⟩]
  rfl
@[simp] theorem ce_str (a b : Str) : cmpD .eq (.str a) (.str b) = .ok (decide (a = b)) := by
  rw [ce_eq _ _ (by simp) (by simp)]
  congr 1
@[simp] theorem cn_str (a b : Str) : cmpD .ne (.str a) (.str b) = .ok (!decide (a = b)) := by
  rw [ce_ne _ _ (by simp) (by simp)]
  congr 2
@[simp] theorem ce_bool (a b : Bool) : cmpD .eq (.bool a) (.bool b) = .ok (a == b) := by rw [ce_eq _ _ (by simp) (by simp)]; simp [PyData.eqv]
@[simp] theorem cn_bool (a b : Bool) : cmpD .ne (.bool a) (.bool b) = .ok (!(a == b)) := by rw [ce_ne _ _ (by simp) (by simp)]; simp [PyData.eqv]
@[simp] theorem cisn_none (d : D) : cmpD .isn d .none = .ok (match d with | .none => false | _ => true) := by
  cases d <;> rfl
@[simp] theorem cis_bool (a b : Bool) : cmpD .is (.bool a) (.bool b) = .ok (a == b) := (rfl)
@[simp] theorem cisn_bool (a b : Bool) : cmpD .isn (.bool a) (.bool b) = .ok (!(a == b)) := (rfl)
@[simp] theorem truD_none : truD .none = .ok false := (rfl)
@[simp] theorem truD_int (i : Int) : truD (.int i) = .ok (i != 0) := (rfl)
@[simp] theorem truD_list (ds : List D) : truD (.list ds) = .ok (!ds.isEmpty) := (rfl)
/-! places -/
@[simp] theorem idx_t (ds : List D) (i : Int) : idxD (.tuple ds) (.int i) = (do return .fz (← R.of (atI ds i))) := (rfl)
@[simp] theorem idx_l (ds : List D) (i : Int) : idxD (.list ds) (.int i) = (do return .fz (← R.of (atI ds i))) := (rfl)
theorem at_nat {α : Type} (xs : List α) (i : Int) (h0 : 0 ≤ i) (h : i.toNat < xs.length) : atI xs i = some (xs[i.toNat]) := by
  have h2 : i < (xs.length : Int) := by omega
  simp [atI, ixN, h0, h2]
theorem at_neg1 {α : Type} (xs : List α) (h : xs ≠ []) : atI xs (-1) = some (xs.getLast h) := by
  have hl : 0 < xs.length := List.length_pos_iff.mpr h
  have h1 : -(xs.length : Int) ≤ -1 := by omega
  have h2 : ((-1 : Int) + (xs.length : Int)).toNat = xs.length - 1 := by omega
  have e : xs[xs.length - 1]? = some (xs.getLast h) := by rw [List.getLast_eq_getElem, List.getElem?_eq_getElem (by omega)]
  simp [atI, ixN, h1, h2, e]
@[simp] theorem at0 {α : Type} (a : α) (l : List α) : atI (a :: l) 0 = some a := by rw [at_nat _ _ (by decide) (by simp)]; rfl
@[simp] theorem at1 {α : Type} (a b : α) (l : List α) : atI (a :: b :: l) 1 = some b := by rw [at_nat _ _ (by decide) (by simp)]; rfl
@[simp] theorem at2 {α : Type} (a b c : α) (l : List α) : atI (a :: b :: c :: l) 2 = some c := by rw [at_nat _ _ (by decide) (by simp)]; rfl
@[simp] theorem at3 {α : Type} (a b c d : α) (l : List α) : atI (a :: b :: c :: d :: l) 3 = some d := by rw [at_nat _ _ (by decide) (by simp)]; rfl
@[simp] theorem at4 {α : Type} (a b c d e : α) (l : List α) : atI (a :: b :: c :: d :: e :: l) 4 = some e := by rw [at_nat _ _ (by decide) (by simp)]; rfl
@[simp] theorem at5 {α : Type} (a b c d e f : α) (l : List α) : atI (a :: b :: c :: d :: e :: f :: l) 5 = some f := by rw [at_nat _ _ (by decide) (by simp)]; rfl
@[simp] theorem at6 {α : Type} (a b c d e f g : α) (l : List α) : atI (a :: b :: c :: d :: e :: f :: g :: l) 6 = some g := by rw [at_nat _ _ (by decide) (by simp)]; rfl
@[simp] theorem at7 {α : Type} (a b c d e f g h : α) (l : List α) : atI (a :: b :: c :: d :: e :: f :: g :: h :: l) 7 = some h := by rw [at_nat _ _ (by decide) (by simp)]; rfl
@[simp] theorem at8 {α : Type} (a b c d e f g h i : α) (l : List α) : atI (a :: b :: c :: d :: e :: f :: g :: h :: i :: l) 8 = some i := by rw [at_nat _ _ (by decide) (by simp)]; rfl
theorem at_map {α β : Type} (e : α → β) (xs : List α) (i : Int) : atI (xs.map e) i = (atI xs i).map e := by
  unfold atI
  rw [List.length_map]
  cases ixN xs.length i <;> simp
theorem at_mem {α : Type} {xs : List α} {i : Int} {x : α} (h : atI xs i = some x) : x ∈ xs := by
  unfold atI at h
  cases e : ixN xs.length i with
  | none => rw [e] at h; cases h
  | some j => rw [e] at h; exact List.mem_of_getElem? h
/-- a list's item at a place within -/
theorem at_some {α : Type} (xs : List α) (i : Int) (h0 : 0 ≤ i) (h : i < (xs.length : Int)) : ∃ x ∈ xs, atI xs i = some x := by
  rw [at_nat xs i h0 (by omega)]
  exact ⟨_, List.getElem_mem _, rfl⟩
/-! ints drawn -/
def In (l : Int) (ms : List Int) : Prop := ∀ m ∈ ms, 0 ≤ m ∧ m < l
theorem In.snoc {l : Int} {ms : List Int} {v : Int} (h : In l ms) (h1 : 0 ≤ v) (h2 : v < l) : In l (ms ++ [v]) := fun m hm => by
  rcases List.mem_append.mp hm with z | z
  · exact h m z
  · have : m = v := by simpa using z
    rw [this]
    exact ⟨h1, h2⟩
theorem fz_snoc (ds : List D) (v : D) : fzs ds ++ [.fz v] = fzs (ds ++ [v]) := by simp [fzs]
theorem map_snoc {α β : Type} (e : α → β) (xs : List α) (x : α) : xs.map e ++ [e x] = (xs ++ [x]).map e := by simp
theorem mulOk_l {i j : Int} (h : -(2 ^ 64) < i) (k : i < 2 ^ 64) : mulOk i j = true := by simp [mulOk]; omega
theorem mulOk_r {i j : Int} (h : -(2 ^ 64) < j) (k : j < 2 ^ 64) : mulOk i j = true := by simp [mulOk]; omega
theorem sz_le {n : Nat} (h : n ≤ 10000000) : n ≤ sizeLine := by rw [sizeLine_eq]; omega
theorem sz_lt {n : Nat} (h : n < 10000000) : n < sizeLine := by rw [sizeLine_eq]; omega
theorem rng_ok0 (n : Int) (h0 : 0 ≤ n) (h : n < 2 ^ 62) : rngD 0 n = .ok ((List.range n.toNat).map fun (k : Nat) => .int (k : Int)) := by
  unfold rngD
  rw [if_pos ⟨by omega, by omega, by omega, h⟩]
  simp
theorem rng_two (m n : Int) (h0 : 0 ≤ m) (h1 : m ≤ n) (h : n < 2 ^ 62) : rngD m n = .ok ((List.range (n - m).toNat).map fun (k : Nat) => .int (m + (k : Int))) := by
  unfold rngD
  rw [if_pos ⟨by omega, by omega, by omega, h⟩]
theorem bt_pow (a b : Int) (h : 0 ≤ b) (h2 : b ≤ 1000000) (h3 : a.natAbs < 2 ^ 64) : binT .pow (.fz (.int a)) (.int b) = .ok (.fz (.int (a ^ b.toNat))) := if_pos ⟨h, h2, h3⟩
@[simp] theorem isTy_int (ty : Ty) (i : Int) : isTy ty (.int i) = decide (ty = .int) := by cases ty <;> rfl
@[simp] theorem isTy_bool (ty : Ty) (i : Bool) : isTy ty (.bool i) = (decide (ty = .int) || decide (ty = .bool)) := by cases ty <;> rfl
@[simp] theorem isTy_str (ty : Ty) (i : Str) : isTy ty (.str i) = decide (ty = .str) := by cases ty <;> rfl
@[simp] theorem isTy_none (ty : Ty) : isTy ty .none = false := by cases ty <;> rfl
@[simp] theorem isTy_list (ty : Ty) (ds : List D) : isTy ty (.list ds) = decide (ty = .list) := by cases ty <;> rfl
@[simp] theorem isTy_tuple (ty : Ty) (ds : List D) : isTy ty (.tuple ds) = decide (ty = .tuple) := by cases ty <;> rfl
theorem isTy_dict (ty : Ty) (ds : List (D × D)) : isTy ty (.dict ds) = false := by cases ty <;> rfl
@[simp] theorem mkTup_ok (ts : List T) (h : ts.all isFz = true) : mkTup ts = .fz (.tuple (T.ds ts)) := if_pos h
@[simp] theorem mkTup_no (ts : List T) (h : ts.all isFz = false) : mkTup ts = .tup ts := if_neg (by rw [h]; intro z; cases z)
@[simp] theorem mkTup_nil : mkTup [] = .fz (.tuple []) := (rfl)
theorem mkTup_fz (ds : List D) : mkTup (fzs ds) = .fz (.tuple ds) := by
  unfold mkTup
  have : (fzs ds).all isFz = true := by simp [fzs, isFz]
  rw [if_pos this, T.ds_fzs]
@[simp] theorem isFz_fz (d : D) : isFz (.fz d) = true := (rfl)
@[simp] theorem isFz_lst (d : List T) : isFz (.lst d) = false := (rfl)
@[simp] theorem bind_ok {α β : Type} (a : α) (f : α → R β) : (do let x ← (R.ok a : R α); f x) = f a := (rfl)
end Gn
namespace Gn
open PySem PySem.Spec PyProof.Rows L2
@[simp] theorem sIx_none (n d : Nat) : HT.sIx n d none = d := (rfl)
theorem cut_to {α : Type} (xs : List α) (n : Int) (h : 0 ≤ n) : cutL xs none (some n) = xs.take n.toNat := by
  have h : ¬ n < 0 := by omega
  simp only [cutL, HT.sIx, if_neg h, List.drop_zero, Nat.sub_zero]
  by_cases k : n.toNat ≤ xs.length
  · rw [Nat.min_eq_left k]
  · rw [Nat.min_eq_right (by omega), List.take_of_length_le (Nat.le_refl _), List.take_of_length_le (by omega)]
theorem cut_from {α : Type} (xs : List α) (n : Int) (h : 0 ≤ n) : cutL xs (some n) none = xs.drop n.toNat := by
  have h : ¬ n < 0 := by omega
  simp only [cutL, HT.sIx, if_neg h]
  rw [List.take_of_length_le (by simp)]
  by_cases k : n.toNat ≤ xs.length
  · rw [Nat.min_eq_left k]
  · rw [Nat.min_eq_right (by omega), List.drop_of_length_le (Nat.le_refl _), List.drop_of_length_le (by omega)]
theorem cut_mid {α : Type} (xs : List α) (m n : Int) (h : 0 ≤ m) (h2 : m ≤ n) : cutL xs (some m) (some n) = (xs.take n.toNat).drop m.toNat := by
  have h : ¬ m < 0 := by omega
  have h3 : ¬ n < 0 := by omega
  simp only [cutL, HT.sIx, if_neg h, if_neg h3]
  rw [List.drop_take]
  by_cases k : m.toNat ≤ xs.length
  · rw [Nat.min_eq_left k]
    by_cases k2 : n.toNat ≤ xs.length
    · rw [Nat.min_eq_left k2]
    · rw [Nat.min_eq_right (by omega), List.take_of_length_le (by simp), List.take_of_length_le (by simp; omega)]
  · have e1 : min m.toNat xs.length = xs.length := Nat.min_eq_right (by omega)
    rw [e1, List.drop_of_length_le (Nat.le_refl _), List.drop_of_length_le (by omega)]
    simp
@[simp] theorem sl_list (ds : List D) (lo hi : Option Int) : sliD (.list ds) lo hi = .ok (.lst (fzs (cutL ds lo hi))) := (rfl)
theorem bi_str (c : Bool) (i : Int) (h : i.natAbs < 2 ^ 60) : biD c .str [.int i] = .ok (.fz (.str (strOf i))) := by
  refine if_pos ?_
  by_cases z : i.natAbs = 0
  · rw [z]; decide
  · have := (Nat.log2_lt z).mpr (show i.natAbs < 2 ^ 60 from h)
    omega
theorem bt_rep (ds : List D) (k : Int) (h0 : 0 ≤ k) (h1 : k < 1000000) (h2 : ds.length * k.toNat ≤ 10000000) : binT .mul (.lst (fzs ds)) (.int k) = .ok (.lst (fzs (List.replicate k.toNat ds).flatten)) := by
  show (if 0 ≤ k ∧ k < 2 ^ 40 ∧ (fzs ds).length * k.toNat ≤ sizeLine then (.ok (.lst (fzs (List.replicate k.toNat (T.ds (fzs ds))).flatten)) : R T) else .no) = _
  rw [if_pos ⟨h0, by omega, by simpa using sz_le h2⟩, T.ds_fzs]
theorem bt_cat (t u : T) (ds es : List D) (h : t.d = .list ds) (k : u.d = .list es) (hz : (ds ++ es).length ≤ sizeLine) : binT .add t u.d = .ok (.lst (fzs (ds ++ es))) := by
  have e : binT .add t u.d = binD .add t.d u.d := by cases t <;> rfl
  rw [e, h, k]
  exact if_pos hz
@[simp] theorem bt_addl (ds es : List D) (h : ds.length + es.length ≤ 10000000) : binT .add (.fz (.list ds)) (.list es) = .ok (.lst (fzs (ds ++ es))) :=
  if_pos (by simpa using sz_le h)
@[simp] theorem bt_addL (ts : List T) (es : List D) (h : ts.length + es.length ≤ 10000000) : binT .add (.lst ts) (.list es) = .ok (.lst (fzs (T.ds ts ++ es))) :=
  if_pos (by rw [List.length_append, T.ds_map, List.length_map]; exact sz_le h)
@[simp] theorem bt_addt (ds es : List D) (h : ds.length + es.length ≤ 10000000) : binT .add (.fz (.tuple ds)) (.tuple es) = .ok (.fz (.tuple (ds ++ es))) :=
  if_pos (by simpa using sz_le h)
theorem bt_adds (a b : Str) (h : (a ++ b).length ≤ sizeLine) : binT .add (.fz (.str a)) (.str b) = .ok (.fz (.str (a ++ b))) := if_pos h
/-! sorting -/
theorem sortI_mem {ns : List Int} {x : Int} : x ∈ sortI ns ↔ x ∈ ns := (sortI_perm ns).mem_iff
theorem sortI_len (ns : List Int) : (sortI ns).length = ns.length := (sortI_perm ns).length_eq
theorem insI_le {n : Int} {ms : List Int} (h : ∀ m ∈ ms, n ≤ m) : insI n ms = n :: ms := by
  cases ms with
  | nil => rfl
  | cons m ms => exact if_pos (h m (by simp))
theorem sortI_of_sorted {ns : List Int} (h : ns.Pairwise (· ≤ ·)) : sortI ns = ns := by
  induction ns with
  | nil => rfl
  | cons n ns ih =>
    obtain ⟨h1, h2⟩ := List.pairwise_cons.mp h
    show insI n (sortI ns) = _
    rw [ih h2, insI_le h1]
end Gn
namespace Gn
open PySem PySem.Spec PyProof.Rows L2
/-! equal to itself: where no dict stands within -/
mutual
theorem eqv_refl : ∀ (d : D), nd d = true → PyData.eqv d d = true
  | .none, _ => by simp [PyData.eqv]
  | .bool _, _ => by simp [PyData.eqv]
  | .int _, _ => by simp [PyData.eqv]
  | .str _, _ => by simp [PyData.eqv]
  | .list ds, h => by
    have := eqvAll_refl ds h
    simpa [PyData.eqv] using this
  | .tuple ds, h => by
    have := eqvAll_refl ds h
    simpa [PyData.eqv] using this
  | .dict _, h => by cases h
theorem eqvAll_refl : ∀ (ds : List D), nds ds = true → PyData.eqvAll ds ds = true
  | [], _ => by simp [PyData.eqvAll]
  | d :: ds, h => by
    obtain ⟨h1, h2⟩ := Bool.and_eq_true_iff.mp (show (nd d && nds ds) = true from h)
    simp [PyData.eqvAll, eqv_refl d h1, eqvAll_refl ds h2]
end
@[simp] theorem nd_none : nd .none = true := (rfl)
@[simp] theorem nd_bool (b : Bool) : nd (.bool b) = true := (rfl)
@[simp] theorem nd_int (b : Int) : nd (.int b) = true := (rfl)
@[simp] theorem nd_str (b : Str) : nd (.str b) = true := (rfl)
@[simp] theorem nd_list (ds : List D) : nd (.list ds) = nds ds := (rfl)
@[simp] theorem nd_tuple (ds : List D) : nd (.tuple ds) = nds ds := (rfl)
@[simp] theorem nds_nil : nds [] = true := (rfl)
@[simp] theorem nds_cons (d : D) (ds : List D) : nds (d :: ds) = (nd d && nds ds) := (rfl)
theorem nds_map {α : Type} {e : α → D} : ∀ {xs : List α}, (∀ x ∈ xs, nd (e x) = true) → nds (xs.map e) = true
  | [], _ => rfl
  | x :: xs, h => by
    show (nd (e x) && nds (xs.map e)) = true
    rw [h x (by simp), nds_map fun y hy => h y (by simp [hy])]
    rfl
theorem eqv_map {α : Type} {e : α → D} {xs : List α} (h : ∀ x ∈ xs, nd (e x) = true) : PyData.eqv (.list (xs.map e)) (.list (xs.map e)) = true := eqv_refl _ (nds_map h)
/-- a list of things, by an injective telling -/
theorem eqvAll_map {α : Type} {e : α → D} (inj : ∀ x y, PyData.eqv (e x) (e y) = true ↔ x = y) : ∀ {xs ys : List α}, PyData.eqvAll (xs.map e) (ys.map e) = true ↔ xs = ys
  | [], [] => by simp [PyData.eqvAll]
  | [], y :: ys => by simp [PyData.eqvAll]
  | x :: xs, [] => by simp [PyData.eqvAll]
  | x :: xs, y :: ys => by
    rw [List.map_cons, List.map_cons]
    simp [PyData.eqvAll, eqvAll_map inj, inj]
theorem eqv_lists {α : Type} {e : α → D} (inj : ∀ x y, PyData.eqv (e x) (e y) = true ↔ x = y) (xs ys : List α) : PyData.eqv (.list (xs.map e)) (.list (ys.map e)) = true ↔ xs = ys := by
  show PyData.eqv (.list _) (.list _) = true ↔ _
  rw [show PyData.eqv (.list (xs.map e)) (.list (ys.map e)) = PyData.eqvAll (xs.map e) (ys.map e) by simp [PyData.eqv]]
  exact eqvAll_map inj
theorem cn_same (d : D) (h : nd d = true) (k : d.depth ≤ 64) : cmpD .ne d d = .ok false := by
  rw [ce_ne d d k k h h, eqv_refl d h]
  rfl
theorem ce_same (d : D) (h : nd d = true) (k : d.depth ≤ 64) : cmpD .eq d d = .ok true := by
  rw [ce_eq d d k k h h, eqv_refl d h]
theorem cn_list {α : Type} {e : α → D} (n : Nat) (hn : n ≤ 60) (xs : List α) (h : ∀ x, nd (e x) = true ∧ (e x).depth ≤ n) : cmpD .ne (.list (xs.map e)) (.list (xs.map e)) = .ok false :=
  cn_same _ (nds_map fun x _ => (h x).1) (by have := dp_map (e := e) (n := n) (xs := xs) (fun x _ => (h x).2); simp; omega)
theorem ce_list {α : Type} {e : α → D} (n : Nat) (hn : n ≤ 60) (xs : List α) (h : ∀ x, nd (e x) = true ∧ (e x).depth ≤ n) : cmpD .eq (.list (xs.map e)) (.list (xs.map e)) = .ok true :=
  ce_same _ (nds_map fun x _ => (h x).1) (by have := dp_map (e := e) (n := n) (xs := xs) (fun x _ => (h x).2); simp; omega)
end Gn

set_option Elab.async false
set_option linter.all false
set_option maxRecDepth 100000
set_option maxHeartbeats 1000000
namespace Gn
open PySem PySem.Spec PyProof.Rows L2
section
variable (G : Gam) (ρ : Rho)
@[simp] theorem ev_cmp3 (o o' : CmpO) (p q r : P) : P.ev G (.cmp3 o o' p q r) ρ = and2 (cmp2 o (p.ev G ρ) (q.ev G ρ)) (cmp2 o' (q.ev G ρ) (r.ev G ρ)) := by
  show (do
    let t ← p.ev G ρ
    let u ← q.ev G ρ
    if ← cmpD o t.d u.d then (do
      let v ← r.ev G ρ
      return T.fz (.bool (← cmpD o' u.d v.d))) else .ok (.fz (.bool false)) : R T) = _
  cases p.ev G ρ with
  | no => rfl
  | ex c fs => rfl
  | ok t =>
    cases q.ev G ρ with
    | no => rfl
    | ex c fs => rfl
    | ok u =>
      simp only [cmp2_ok]
      show (do
        if ← cmpD o t.d u.d then (do
          let v ← r.ev G ρ
          return T.fz (.bool (← cmpD o' u.d v.d))) else .ok (.fz (.bool false)) : R T) = _
      cases cmpD o t.d u.d with
      | no => rfl
      | ex c fs => rfl
      | ok b =>
        cases b with
        | false => rfl
        | true =>
          show (do
            let v ← r.ev G ρ
            return T.fz (.bool (← cmpD o' u.d v.d)) : R T) = cmp2 o' (.ok u) (r.ev G ρ)
          cases r.ev G ρ with
          | no => rfl
          | ex c fs => rfl
          | ok v =>
            show (do return T.fz (.bool (← cmpD o' u.d v.d)) : R T) = boolR (cmpD o' u.d v.d)
            cases cmpD o' u.d v.d <;> rfl
def rv1 : R T → R T
  | .ok t => rvD t.d
  | .ex c f => .ex c f
  | .no => .no
@[simp] theorem rv1_ok (t : T) : rv1 (.ok t) = rvD t.d := (rfl)
@[simp] theorem rvD_l (ds : List D) : rvD (.list ds) = .ok (.lst (fzs ds.reverse)) := (rfl)
@[simp] theorem ev_rv (p : P) : P.ev G (.rv p) ρ = rv1 (p.ev G ρ) := by
  show (do let t ← p.ev G ρ; rvD t.d : R T) = _
  cases p.ev G ρ <;> rfl
def lrev1 : R T → R T
  | .ok t => rvD t.d
  | .ex c f => .ex c f
  | .no => .no
@[simp] theorem lrev1_ok (ds : List D) (t : T) (h : t.d = .list ds) : lrev1 (.ok t) = .ok (.lst (fzs ds.reverse)) := by
  show rvD t.d = _
  rw [h]
  rfl
@[simp] theorem ev_lrev (p : P) : P.ev G (.lrev p) ρ = lrev1 (p.ev G ρ) := by
  show (do let t ← p.ev G ρ; rvD t.d : R T) = _
  cases p.ev G ρ <;> rfl
def srtl1 (f : D → Option D) : R T → R T
  | .ok t => srtlD f t.d
  | .ex c f => .ex c f
  | .no => .no
@[simp] theorem srtl1_ok (f : D → Option D) (t : T) : srtl1 f (.ok t) = srtlD f t.d := (rfl)
@[simp] theorem ev_srtl (p : P) (i : Nat) (q : Ky) : P.ev G (.srtl p i q) ρ = srtl1 (fun d => q.ev (ρ.set i (some (.fz d)))) (p.ev G ρ) := by
  show (do let t ← p.ev G ρ; srtlD _ t.d : R T) = _
  cases p.ev G ρ <;> rfl
def maxk1 (f : D → Option D) : R T → R T
  | .ok t => maxKD f t.d
  | .ex c f => .ex c f
  | .no => .no
@[simp] theorem maxk1_ok (f : D → Option D) (t : T) : maxk1 f (.ok t) = maxKD f t.d := (rfl)
@[simp] theorem ev_maxk (p : P) (i : Nat) (q : Ky) : P.ev G (.maxk p i q) ρ = maxk1 (fun d => q.ev (ρ.set i (some (.fz d)))) (p.ev G ρ) := by
  show (do let t ← p.ev G ρ; maxKD _ t.d : R T) = _
  cases p.ev G ρ <;> rfl
theorem maxKD_eq (f : D → Option D) (d : D) (ds : List D) (h1 : ((d :: ds).all fun d => (f d).isSome && nl (kyD f d)) = true) (h2 : sdOk ((d :: ds).map (kyD f)) = true) :
    maxKD f (.list (d :: ds)) = .ok (.fz (ds.foldl (fun a y => if PySem.W.dataLt (kyD f a) (kyD f y) = true then y else a) d)) := if_pos ⟨h1, h2⟩
def srtr1 (f : D → Option D) : R T → R T
  | .ok t => srtrD f t.d
  | .ex c f => .ex c f
  | .no => .no
@[simp] theorem srtr1_ok (f : D → Option D) (t : T) : srtr1 f (.ok t) = srtrD f t.d := (rfl)
@[simp] theorem ev_srtr (p : P) (i : Nat) (q : Ky) : P.ev G (.srtr p i q) ρ = srtr1 (fun d => q.ev (ρ.set i (some (.fz d)))) (p.ev G ρ) := by
  show (do let t ← p.ev G ρ; srtrD _ t.d : R T) = _
  cases p.ev G ρ <;> rfl
theorem srtrD_eq (f : D → Option D) (n : Nat) (h : n ≤ 16777216) : srtrD f (.int (n : Int)) = srtKD f ((List.range n).map fun (k : Nat) => .int (k : Int)) := by
  show (if 0 ≤ (n : Int) ∧ (n : Int) ≤ 16777216 then srtKD f ((List.range (n : Int).toNat).map fun (k : Nat) => .int (k : Int)) else .no) = _
  rw [if_pos ⟨by omega, by omega⟩, Int.toNat_natCast]
theorem srtKD_eq (f : D → Option D) (ds : List D) (h1 : ∀ d ∈ ds, (f d).isSome = true ∧ nl (kyD f d) = true) (h2 : sdOk (ds.map (kyD f)) = true) : srtKD f ds = .ok (.lst (fzs (ds.mergeSort (PySem.W.dataLe false (kyD f))))) := by
  unfold srtKD
  rw [if_pos ⟨List.all_eq_true.mpr fun d hd => by rw [(h1 d hd).1, (h1 d hd).2]; rfl, h2⟩]
def lrng1 : R T → R T
  | .ok t => lrngD t.d
  | .ex c f => .ex c f
  | .no => .no
@[simp] theorem lrng1_ok (t : T) : lrng1 (.ok t) = lrngD t.d := (rfl)
theorem lrng_ok (n : Int) (h0 : 0 ≤ n) (h : n ≤ 10000000) : lrngD (.int n) = .ok (.lst (fzs ((List.range n.toNat).map fun (k : Nat) => .int (k : Int)))) := if_pos ⟨by omega, by omega⟩
@[simp] theorem ev_lrng (p : P) : P.ev G (.lrng p) ρ = lrng1 (p.ev G ρ) := by
  show (do let t ← p.ev G ρ; lrngD t.d : R T) = _
  cases p.ev G ρ <;> rfl
def sset1 : R T → R T
  | .ok t => ssetD t.d
  | .ex c f => .ex c f
  | .no => .no
@[simp] theorem sset1_ok (t : T) : sset1 (.ok t) = ssetD t.d := (rfl)
theorem sset_ok (ns : List Int) (h : ns.length < 64) : ssetD (.list (ns.map .int)) = .ok (.lst (fzs ((setI ns).map .int))) := by
  show (do
    let ns ← R.of (intsOf (ns.map PyData.int))
    if ns.length < 64 then .ok (.lst (fzs ((setI ns).map .int))) else .no : R T) = _
  rw [intsOf_map]
  exact if_pos h
@[simp] theorem ev_sset (p : P) : P.ev G (.sset p) ρ = sset1 (p.ev G ρ) := by
  show (do let t ← p.ev G ρ; ssetD t.d : R T) = _
  cases p.ev G ρ <;> rfl
@[simp] theorem ev_edct (ρ : Rho) : P.ev G .edct ρ = .ok (.fz (.dict [])) := (rfl)
def lset1 : R T → R T
  | .ok t => lsetD t.d
  | .ex c f => .ex c f
  | .no => .no
@[simp] theorem lset1_ok (t : T) : lset1 (.ok t) = lsetD t.d := (rfl)
theorem lset_ok (ns : List Int) (h : ns.length < 4000) : lsetD (.list (ns.map .int)) = .ok (.fz (.int ((setI ns).length : Int))) := by
  show lsetL (ns.map PyData.int) = _
  unfold lsetL
  rw [intsOf_map]
  exact if_pos h
theorem lset_okS (xs : List Str) (h : xs.length < 4000) : lsetD (.list (xs.map .str)) = .ok (.fz (.int ((ddS xs).length : Int))) := by
  cases xs with
  | nil => rfl
  | cons x xs =>
    show lsetL ((x :: xs).map PyData.str) = _
    unfold lsetL
    show (do
      let xs ← R.of (strsOf ((x :: xs).map PyData.str))
      if xs.length < 4000 then .ok (.fz (.int ((ddS xs).length : Int))) else .no : R T) = _
    rw [strsOf_map]
    exact if_pos h
@[simp] theorem ev_lset (p : P) : P.ev G (.lset p) ρ = lset1 (p.ev G ρ) := by
  show (do let t ← p.ev G ρ; lsetD t.d : R T) = _
  cases p.ev G ρ <;> rfl
def upper1 : R T → R T
  | .ok t => upperD t.d
  | .ex c f => .ex c f
  | .no => .no
@[simp] theorem upper1_ok (t : T) : upper1 (.ok t) = upperD t.d := (rfl)
@[simp] theorem ev_upper (p : P) : P.ev G (.upper p) ρ = upper1 (p.ev G ρ) := by
  show (do let t ← p.ev G ρ; upperD t.d : R T) = _
  cases p.ev G ρ <;> rfl
def hcR (hx : Option (Nat × List D)) (fh : Nat → D → R T) (k : Nat) : R T → R T
  | .ok t => match hx with
    | some _ => (fh k t.d).shut
    | none => .no
  | .ex c f => match hx with
    | some _ => .ex c f
    | none => .no
  | .no => .no
@[simp] theorem hcR_some (c : Nat) (fs : List D) (fh : Nat → D → R T) (k : Nat) (t : T) : hcR (some (c, fs)) fh k (.ok t) = (fh k t.d).shut := (rfl)
@[simp] theorem ev_hcall (k : Nat) (p : P) : P.ev G (.hcall k p) ρ = hcR G.hx G.fh k (p.ev G ρ) := by
  show (match G.hx with
    | some _ => (do
      let t ← p.ev G ρ
      (G.fh k t.d).shut)
    | none => .no : R T) = _
  cases G.hx with
  | none => cases p.ev G ρ <;> rfl
  | some x => cases p.ev G ρ <;> rfl
def mt2 (m : MT) : R T → R (List T) → R T
  | .ok t, .ok ts => if mtTy m t.d then mtD m t.d (T.ds ts) else .no
  | .ok t, .ex c f => if mtTy m t.d then .ex c f else .no
  | .ok t, .no => .no
  | .ex c f, _ => .ex c f
  | .no, _ => .no
@[simp] theorem mt2_ok (m : MT) (t : T) (ts : List T) : mt2 m (.ok t) (.ok ts) = if mtTy m t.d then mtD m t.d (T.ds ts) else .no := (rfl)
@[simp] theorem ev_mt (m : MT) (p : P) (ps : List P) : P.ev G (.mt m p ps) ρ = mt2 m (p.ev G ρ) (P.evs G ps ρ) := by
  show (do
    let t ← p.ev G ρ
    if mtTy m t.d then (do
      let ts ← P.evs G ps ρ
      mtD m t.d (T.ds ts)) else .no : R T) = _
  cases p.ev G ρ with
  | no => rfl
  | ex c fs => rfl
  | ok t =>
    show (if mtTy m t.d then (do
      let ts ← P.evs G ps ρ
      mtD m t.d (T.ds ts)) else .no : R T) = _
    cases P.evs G ps ρ with
    | ok ts => rfl
    | ex c f => rfl
    | no =>
      show (if mtTy m t.d = true then (R.no : R T) else .no) = .no
      split <;> rfl
@[simp] theorem mtTy_s (m : MT) (x : Str) : mtTy m (.str x) = (match m with | .index => false | .count => false | _ => true) := by cases m <;> rfl
@[simp] theorem mtTy_l (m : MT) (x : List D) : mtTy m (.list x) = (match m with | .index => true | .count => true | _ => false) := by cases m <;> rfl
@[simp] theorem mt_starts (a b : Str) : mtD .starts (.str a) [.str b] = .ok (.fz (.bool (PySem.Txt.startswith a b))) := (rfl)
@[simp] theorem mt_find (a b : Str) : mtD .find (.str a) [.str b] = .ok (.fz (.int (PySem.Txt.find a b))) := (rfl)
end
/-! ### texts as lists of signs -/
theorem mkS_of (x : Str) : mkS x.cps.toList = x := mkS_tl x
theorem str_cases (x : Str) : ∃ l, x = mkS l := ⟨_, (mkS_of x).symm⟩
@[simp] theorem mkS_list (l : List Nat) : (mkS l).cps.toList = l := (rfl)
@[simp] theorem mkS_len (l : List Nat) : (mkS l).length = l.length := (rfl)
@[simp] theorem mkS_app (a b : List Nat) : mkS a ++ mkS b = mkS (a ++ b) := TL.ext_tl (by rw [TL.tl_append]; rfl)
@[simp] theorem mkS_inj (a b : List Nat) : (mkS a = mkS b) = (a = b) := propext ⟨fun h => congrArg (fun x => x.cps.toList) h, fun h => by rw [h]⟩
@[simp] theorem items_s (x : Str) : itemsD (.str x) = .ok (x.cps.toList.map fun c => .str (mkS [c])) := (rfl)
@[simp] theorem idx_s (x : Str) (i : Int) : idxD (.str x) (.int i) = (do return .fz (.str (mkS [← R.of (atI x.cps.toList i)]))) := (rfl)
@[simp] theorem sl_s (x : Str) (lo hi : Option Int) : sliD (.str x) lo hi = .ok (.fz (.str (mkS (cutL x.cps.toList lo hi)))) := (rfl)
theorem any_eq (l : List Nat) (c : Nat) : (l.any fun d => [c] == [d]) = l.contains c := by
  induction l with
  | nil => rfl
  | cons a l ih =>
    rw [List.any_cons, ih, List.contains_cons]
    congr 1
    simp
@[simp] theorem in_s (c : Nat) (y : Str) : cmpD .isIn (.str (mkS [c])) (.str y) = .ok (y.cps.toList.contains c) := by
  show (if (1 : Nat) = 1 then (R.ok (y.cps.toList.any fun d => [c] == [d])) else .no) = _
  rw [if_pos rfl, any_eq]
@[simp] theorem nin_s (c : Nat) (y : Str) : cmpD .notIn (.str (mkS [c])) (.str y) = .ok (!y.cps.toList.contains c) := by
  show (do return !(← cmpD .isIn (.str (mkS [c])) (.str y)) : R Bool) = _
  rw [in_s]
  rfl
@[simp] theorem bt_addS (a b : List Nat) (h : a.length + b.length ≤ 10000000) : binT .add (.fz (.str (mkS a))) (.str (mkS b)) = .ok (.fz (.str (mkS (a ++ b)))) := by
  rw [← mkS_app]
  exact bt_adds _ _ (by rw [mkS_app, mkS_len, List.length_append]; exact sz_le h)
theorem starts_L (a b : List Nat) : PySem.Txt.startswith (mkS a) (mkS b) = decide (a.take b.length = b) := by
  unfold PySem.Txt.startswith
  rw [PySem.StrLaws.subAt_eq]
  simp only [mkS_list, mkS_len, List.drop_zero, Nat.zero_add]
  rw [Bool.eq_iff_iff]
  simp
  intro h
  have := congrArg List.length h
  simp at this
  omega
theorem lit (s : String) : Str.ofString s = mkS (s.toList.map Char.toNat) := by
  have := TL.tl_ofString s
  rw [← this]
  exact (mkS_of _).symm
theorem fzs_map {α : Type} (e : α → D) (xs : List α) : fzs (xs.map e) = xs.map fun x => T.fz (e x) := by simp [fzs]
theorem bt_mulS (a : List Nat) (n : Int) (h : 2 ≤ n ∧ n ≤ 1000 ∧ 1 ≤ a.length ∧ a.length ≤ 1000) : binT .mul (.fz (.str (mkS a))) (.int n) = .ok (.fz (.str (mkS (List.replicate n.toNat a).flatten))) := if_pos h
end Gn

namespace Gn
open PySem PySem.Spec PyProof.Rows L2
section
variable {α β : Type} {N C B : Rho → Prop} {V : T → Prop} {E : Nat → List D → Prop} {F : D → Rho → Res} {e : α → D} {G : Gam} {ss : List S} {xs : List α} {ρ : Rho}
/-- a loop that answers at the first find -/
theorem sat_find (f : α → Option β) (I : Rho → Prop) (h : I ρ)
    (s : ∀ x ∈ xs, ∀ ρ, I ρ → f x = none → Sat (F (e x) ρ) I I (fun _ => False) V E)
    (s' : ∀ x ∈ xs, ∀ v, f x = some v → xs.findSome? f = some v → ∀ ρ, I ρ → Sat (F (e x) ρ) (fun _ => False) (fun _ => False) (fun _ => False) V E)
    (k : ∀ ρ, I ρ → xs.findSome? f = none → Sat (S.runs G ss ρ) N C B V E) : Sat ((forL F (xs.map e) ρ).thn G ss) N C B V E := by
  refine sat_loop (fun d ρ => I ρ ∧ d.findSome? f = none) ⟨h, rfl⟩ (fun d x r ρ e1 ⟨h1, h2⟩ => ?_) fun ρ ⟨h1, h2⟩ => k ρ h1 h2
  have hx : x ∈ xs := by rw [e1]; simp
  cases ef : f x with
  | none => exact sat_mono (s x hx ρ h1 ef) (fun ρ z => ⟨z, by rw [List.findSome?_append, h2]; simp [ef]⟩) (fun ρ z => ⟨z, by rw [List.findSome?_append, h2]; simp [ef]⟩) (fun _ z => z.elim) (fun _ z => z) (fun _ _ z => z)
  | some v => exact sat_mono (s' x hx v ef (by rw [e1, List.findSome?_append, h2]; simp [ef]) ρ h1) (fun _ z => z.elim) (fun _ z => z.elim) (fun _ z => z.elim) (fun _ z => z) (fun _ _ z => z)
/-- a loop that answers at the first bad one -/
theorem sat_allB (f : α → Bool) (I : Rho → Prop) (h : I ρ)
    (s : ∀ x ∈ xs, ∀ ρ, I ρ → f x = true → Sat (F (e x) ρ) I I (fun _ => False) V E)
    (s' : ∀ x ∈ xs, f x = false → xs.all f = false → ∀ ρ, I ρ → Sat (F (e x) ρ) (fun _ => False) (fun _ => False) (fun _ => False) V E)
    (k : ∀ ρ, I ρ → xs.all f = true → Sat (S.runs G ss ρ) N C B V E) : Sat ((forL F (xs.map e) ρ).thn G ss) N C B V E := by
  refine sat_find (fun x => if f x then none else some ()) I h (fun x hx ρ h1 h2 => s x hx ρ h1 (by cases ef : f x <;> simp [ef] at h2 ⊢)) (fun x hx v h1 _ ρ h2 => ?_) fun ρ h1 h2 => k ρ h1 ?_
  · have ef : f x = false := by cases ef : f x <;> simp [ef] at h1 ⊢
    exact s' x hx ef (by rw [List.all_eq_false]; exact ⟨x, hx, by rw [ef]; simp⟩) ρ h2
  · rw [List.all_eq_true]
    intro x hx
    have := List.findSome?_eq_none_iff.mp h2 x hx
    cases ef : f x <;> simp [ef] at this ⊢
end
end Gn

namespace Gn
open PySem PySem.Spec PyProof.Rows L2
/-! more statements -/
section
variable (G : Gam) (ρ : Rho)
def retdR (s : Str) (i : Nat) (ρ : Rho) : R T → Res
  | .ok t => .rt (mkTup [.fz (.str s), t]) (ρ.set i none)
  | .ex c f => .ex c f ρ
  | .no => .no
@[simp] theorem retdR_ok (s : Str) (i : Nat) (ρ : Rho) (t : T) : retdR s i ρ (.ok t) = .rt (mkTup [.fz (.str s), t]) (ρ.set i none) := (rfl)
@[simp] theorem run_retd (s : Str) (i : Nat) : S.run G (.retd s i) ρ = retdR s i ρ (slotT ρ i) := by
  show ((slotT ρ i).bindR ρ fun t => .rt (mkTup [.fz (.str s), t]) (ρ.set i none)) = _
  cases slotT ρ i <;> rfl
def getiR (j i : Nat) (ρ : Rho) : R (List T) → R T → Res
  | .ok ts, .ok u => (ixD ts.length u.d).bindR ρ fun n => (fzT ts[n]?).bindR ρ fun d => .nx (ρ.set j (some (.fz d)))
  | .ok _, .ex c f => .ex c f ρ
  | .ok _, .no => .no
  | .ex c f, _ => .ex c f ρ
  | .no, _ => .no
theorem getiR_ok (j i : Nat) (ρ : Rho) (ts : List T) (k : Int) (n : Nat) (d : D) (h : ixN ts.length k = some n) (h2 : ts[n]? = some (.fz d)) : getiR j i ρ (.ok ts) (.ok (.fz (.int k))) = .nx (ρ.set j (some (.fz d))) := by
  show (R.of (ixN ts.length k)).bindR ρ _ = _
  rw [h]
  show (fzT ts[n]?).bindR ρ _ = _
  rw [h2]
  rfl
@[simp] theorem run_geti (j i : Nat) (p : P) : S.run G (.geti j i p) ρ = getiR j i ρ (slotL ρ i) (p.ev G ρ) := by
  show ((slotL ρ i).bindR ρ fun ts => (p.ev G ρ).bindR ρ fun u => (ixD ts.length u.d).bindR ρ fun n => (fzT ts[n]?).bindR ρ fun d => .nx (ρ.set j (some (.fz d)))) = _
  cases slotL ρ i <;> first | rfl | (cases p.ev G ρ <;> rfl)
def pop0R (j i : Nat) (ρ : Rho) : R (List T) → Res
  | .ok ts => (R.of ts[ts.length - 1]?).bindR ρ fun t => .nx ((ρ.set i (some (.lst (ts.eraseIdx (ts.length - 1))))).set j (some t))
  | .ex c f => .ex c f ρ
  | .no => .no
theorem pop0R_ok (j i : Nat) (ρ : Rho) (ts : List T) (t : T) (h : ts[ts.length - 1]? = some t) : pop0R j i ρ (.ok ts) = .nx ((ρ.set i (some (.lst (ts.eraseIdx (ts.length - 1))))).set j (some t)) := by
  show (R.of ts[ts.length - 1]?).bindR ρ _ = _
  rw [h]
  rfl
@[simp] theorem run_pop0 (j i : Nat) : S.run G (.pop0 j i) ρ = pop0R j i ρ (slotL ρ i) := by
  show ((slotL ρ i).bindR ρ fun ts => (R.of ts[ts.length - 1]?).bindR ρ fun t => .nx ((ρ.set i (some (.lst (ts.eraseIdx (ts.length - 1))))).set j (some t))) = _
  cases slotL ρ i <;> rfl
def augxR (i : Nat) (o : BinO) (ρ : Rho) : R (List T) → R T → R T → Res
  | .ok ts, .ok u, r => (ixD ts.length u.d).bindR ρ fun j => (intT ts[j]?).bindR ρ fun a => r.bindR ρ fun t => (augD o a t.d).bindR ρ fun n => .nx (ρ.set i (some (.lst (ts.set j (.fz (.int n))))))
  | .ok _, .ex c f, _ => .ex c f ρ
  | .ok _, .no, _ => .no
  | .ex c f, _, _ => .ex c f ρ
  | .no, _, _ => .no
theorem augxR_add (i : Nat) (ρ : Rho) (ts : List T) (k a b : Int) (j : Nat) (h : ixN ts.length k = some j) (h2 : ts[j]? = some (.fz (.int a))) : augxR i .add ρ (.ok ts) (.ok (.fz (.int k))) (.ok (.fz (.int b))) = .nx (ρ.set i (some (.lst (ts.set j (.fz (.int (a + b))))))) := by
  show (R.of (ixN ts.length k)).bindR ρ _ = _
  rw [h]
  show (intT ts[j]?).bindR ρ _ = _
  rw [h2]
  rfl
@[simp] theorem run_augx (i : Nat) (q : P) (o : BinO) (p : P) : S.run G (.augx i q o p) ρ = augxR i o ρ (slotL ρ i) (q.ev G ρ) (p.ev G ρ) := by
  show ((slotL ρ i).bindR ρ fun ts => (q.ev G ρ).bindR ρ fun u => (ixD ts.length u.d).bindR ρ fun j => (intT ts[j]?).bindR ρ fun a => (p.ev G ρ).bindR ρ fun t => (augD o a t.d).bindR ρ fun n => .nx (ρ.set i (some (.lst (ts.set j (.fz (.int n))))))) = _
  cases slotL ρ i <;> first | rfl | (cases q.ev G ρ <;> rfl)
def popxR (i : Nat) (ρ : Rho) : R (List T) → R T → Res
  | .ok ts, .ok u => (ixP ts.length u.d).bindR ρ fun n => .nx (ρ.set i (some (.lst (ts.eraseIdx n))))
  | .ok _, .ex c f => .ex c f ρ
  | .ok _, .no => .no
  | .ex c f, _ => .ex c f ρ
  | .no, _ => .no
theorem popxR_ok (i : Nat) (ρ : Rho) (ts : List T) (k : Int) (n : Nat) (h : ixN ts.length k = some n) (h3 : -(2 ^ 62) ≤ k) (h4 : k < 2 ^ 62) : popxR i ρ (.ok ts) (.ok (.fz (.int k))) = .nx (ρ.set i (some (.lst (ts.eraseIdx n)))) := by
  show (if -(2 ^ 62) ≤ k ∧ k < 2 ^ 62 then R.of (ixN ts.length k) else .no).bindR ρ _ = _
  rw [if_pos ⟨h3, h4⟩, h]
  rfl
@[simp] theorem run_popx (i : Nat) (p : P) : S.run G (.popx i p) ρ = popxR i ρ (slotL ρ i) (p.ev G ρ) := by
  show ((slotL ρ i).bindR ρ fun ts => (p.ev G ρ).bindR ρ fun u => (ixP ts.length u.d).bindR ρ fun n => .nx (ρ.set i (some (.lst (ts.eraseIdx n))))) = _
  cases slotL ρ i <;> first | rfl | (cases p.ev G ρ <;> rfl)
def rmvR (i : Nat) (ρ : Rho) : R (List T) → R T → Res
  | .ok ts, .ok u => (R.of (rmI (T.ds ts) u.d)).bindR ρ fun n => .nx (ρ.set i (some (.lst (ts.eraseIdx n))))
  | .ok _, .ex c f => .ex c f ρ
  | .ok _, .no => .no
  | .ex c f, _ => .ex c f ρ
  | .no, _ => .no
theorem rmvR_ok (i : Nat) (ρ : Rho) (ns : List Int) (k : Int) (n : Nat) (h : ns.findIdx? (fun x => decide (x = k)) = some n) : rmvR i ρ (.ok (fzs (ns.map .int))) (.ok (.fz (.int k))) = .nx (ρ.set i (some (.lst (fzs ((ns.eraseIdx n).map .int))))) := by
  have e : rmI (ns.map PyData.int) (.int k) = some n := by
    show (match intsOf (ns.map PyData.int) with
      | some ns => ns.findIdx? fun x => decide (x = k)
      | none => none) = _
    rw [intsOf_map]
    exact h
  show (R.of (rmI (T.ds (fzs (ns.map .int))) (.int k))).bindR ρ _ = _
  rw [T.ds_fzs, e]
  show Res.nx (ρ.set i (some (.lst ((fzs (ns.map .int)).eraseIdx n)))) = _
  have er : ∀ (L : List Int) (n : Nat), (L.map fun x => T.fz (.int x)).eraseIdx n = (L.eraseIdx n).map fun x => T.fz (.int x) := fun L => by
    induction L with
    | nil => intro n; rfl
    | cons a L ih =>
      intro n
      cases n with
      | zero => rfl
      | succ n => simp only [List.map_cons, List.eraseIdx_cons_succ, ih]
  have e1 : ∀ L : List Int, fzs (L.map .int) = L.map fun x => T.fz (.int x) := fun L => by
    rw [fzs, List.map_map]
    rfl
  rw [e1, e1, er]
@[simp] theorem run_rmv (i : Nat) (p : P) : S.run G (.rmv i p) ρ = rmvR i ρ (slotL ρ i) (p.ev G ρ) := by
  show ((slotL ρ i).bindR ρ fun ts => (p.ev G ρ).bindR ρ fun u => (R.of (rmI (T.ds ts) u.d)).bindR ρ fun n => .nx (ρ.set i (some (.lst (ts.eraseIdx n))))) = _
  cases slotL ρ i <;> first | rfl | (cases p.ev G ρ <;> rfl)
def insR (i : Nat) (ρ : Rho) : R (List T) → R T → R T → Res
  | .ok ts, .ok u, r => (insN u.d).bindR ρ fun n => r.bindR ρ fun t => if ts.length < sizeLine then .nx (ρ.set i (some (.lst (ts.take n ++ [t] ++ ts.drop n)))) else .no
  | .ok _, .ex c f, _ => .ex c f ρ
  | .ok _, .no, _ => .no
  | .ex c f, _, _ => .ex c f ρ
  | .no, _, _ => .no
theorem insR_ok (i : Nat) (ρ : Rho) (ts : List T) (k : Nat) (t : T) (h : k < 2 ^ 62) (hz : ts.length < sizeLine) : insR i ρ (.ok ts) (.ok (.fz (.int (k : Int)))) (.ok t) = .nx (ρ.set i (some (.lst (ts.take k ++ [t] ++ ts.drop k)))) := by
  have e : insN (.int (k : Int)) = .ok k := by
    have c : (0 : Int) ≤ (k : Int) ∧ (k : Int) < 2 ^ 62 := ⟨by omega, by omega⟩
    simp only [insN, if_pos c, Int.toNat_natCast]
  simp only [insR, T.d, e, R.bindR_ok, if_pos hz]
@[simp] theorem run_ins (i : Nat) (q p : P) (m : Md) : S.run G (.ins i q p m) ρ = insR i ρ (slotL ρ i) (q.ev G ρ) (p.evm G m ρ) := by
  show ((slotL ρ i).bindR ρ fun ts => (q.ev G ρ).bindR ρ fun u => (insN u.d).bindR ρ fun n => (p.evm G m ρ).bindR ρ fun t => if ts.length < sizeLine then .nx (ρ.set i (some (.lst (ts.take n ++ [t] ++ ts.drop n)))) else .no) = _
  cases slotL ρ i <;> first | rfl | (cases q.ev G ρ <;> rfl)
def appxR (i : Nat) (ρ : Rho) : R (Bool × List T) → R T → R T → Res
  | .ok tt, .ok u, r => (ixD tt.2.length u.d).bindR ρ fun j => (subL tt.2 j).bindR ρ fun us => r.bindR ρ fun t => if us.length < sizeLine then .nx (ρ.set i (some (mkS2 tt.1 (tt.2.set j (.lst (us ++ [t])))))) else .no
  | .ok _, .ex c f, _ => .ex c f ρ
  | .ok _, .no, _ => .no
  | .ex c f, _, _ => .ex c f ρ
  | .no, _, _ => .no
theorem appxR_ok (i : Nat) (ρ : Rho) (bo : Bool) (ts us : List T) (k : Int) (j : Nat) (t : T) (h : ixN ts.length k = some j) (h2 : ts[j]? = some (.lst us)) (hz : us.length < sizeLine) : appxR i ρ (.ok (bo, ts)) (.ok (.fz (.int k))) (.ok t) = .nx (ρ.set i (some (mkS2 bo (ts.set j (.lst (us ++ [t])))))) := by
  show (R.of (ixN ts.length k)).bindR ρ _ = _
  rw [h]
  show (subL ts j).bindR ρ _ = _
  have e : subL ts j = .ok us := by
    unfold subL
    rw [h2]
  rw [e]
  show (if us.length < sizeLine then _ else _) = _
  rw [if_pos hz]
@[simp] theorem run_appx (i : Nat) (q p : P) (m : Md) : S.run G (.appx i q p m) ρ = appxR i ρ (slotS ρ i) (q.ev G ρ) (p.evm G m ρ) := by
  show ((slotS ρ i).bindR ρ fun tt => (q.ev G ρ).bindR ρ fun u => (ixD tt.2.length u.d).bindR ρ fun j => (subL tt.2 j).bindR ρ fun us => (p.evm G m ρ).bindR ρ fun t => if us.length < sizeLine then .nx (ρ.set i (some (mkS2 tt.1 (tt.2.set j (.lst (us ++ [t])))))) else .no) = _
  cases slotS ρ i <;> first | rfl | (cases q.ev G ρ <;> rfl)
theorem slotS_l (ρ : Rho) (i : Nat) (ts : List T) (h : ρ[i]? = some (some (.lst ts))) : slotS ρ i = .ok (true, ts) := by
  unfold slotS
  rw [h]
theorem slotS_t (ρ : Rho) (i : Nat) (ts : List T) (h : ρ[i]? = some (some (.tup ts))) : slotS ρ i = .ok (false, ts) := by
  unfold slotS
  rw [h]
@[simp] theorem mkS2_l (ts : List T) : mkS2 true ts = .lst ts := (rfl)
@[simp] theorem mkS2_t (ts : List T) : mkS2 false ts = .tup ts := (rfl)
end
theorem call_def {t : Tab} {f k : Nat} {ts : List T} {d : Fd} (h : t.fns[f]? = some d) (hio : d.io = []) : t.call (k + 1) f ts = S.body (t.gm k []) d.N.length d.ps.length d.body ts := by
  show (match t.fns[f]? with
    | some d => S.body (t.gam (t.call k) d) d.N.length d.ps.length d.body ts
    | none => .no) = _
  rw [h]
  show S.body (t.gam (t.call k) d) d.N.length d.ps.length d.body ts = _
  unfold Tab.gam Tab.gm
  rw [hio]
theorem call_sat {t : Tab} {f k : Nat} {ts : List T} {u : T} (d : Fd) (h : t.fns[f]? = some d) (hio : d.io = []) (hs : Sat (S.runs (t.gm k []) d.body (initR d.N.length ts)) (fun _ => .fz .none = u) (fun _ => False) (fun _ => False) (fun v => v = u) (fun _ _ => False))
    (hl : ts.length = d.ps.length) (hf : ioB [] 0 ts = true) : t.call (k + 1) f ts = .ok (u, []) := by
  rw [call_def h hio]
  exact body_sat hs rfl hl hf
theorem call_ex {t : Tab} {f k : Nat} {ts : List T} {c : Nat} {fs : List D} (d : Fd) (h : t.fns[f]? = some d) (hio : d.io = []) (hs : Sat (S.runs (t.gm k []) d.body (initR d.N.length ts)) (fun _ => False) (fun _ => False) (fun _ => False) (fun _ => False) (fun k gs => k = c ∧ gs = fs))
    (hl : ts.length = d.ps.length) (hf : ioB [] 0 ts = true) : t.call (k + 1) f ts = .ex c fs := by
  rw [call_def h hio]
  exact body_ex hs rfl hl hf
theorem call_some {t : Tab} {f k : Nat} {ts : List T} {V : T → Prop} (d : Fd) (h : t.fns[f]? = some d) (hio : d.io = []) (hs : Sat (S.runs (t.gm k []) d.body (initR d.N.length ts)) (fun _ => V (.fz .none)) (fun _ => False) (fun _ => False) V (fun _ _ => False))
    (hl : ts.length = d.ps.length) (hf : ioB [] 0 ts = true) : ∃ u, t.call (k + 1) f ts = .ok (u, []) ∧ V u := by
  rw [call_def h hio]
  exact body_some hs rfl hl hf
section
variable (c : Bool)
@[simp] theorem bi_str_none : biD c .str [.none] = .ok (.fz (.str "None")) := (rfl)
@[simp] theorem bi_str_bool (b : Bool) : biD c .str [.bool b] = .ok (.fz (.str (if b then "True" else "False"))) := (rfl)
@[simp] theorem bi_str_str (x : Str) : biD c .str [.str x] = .ok (.fz (.str x)) := (rfl)
end
end Gn

set_option Elab.async false
set_option linter.all false
set_option maxRecDepth 100000
set_option maxHeartbeats 1000000
namespace Gn
open PySem PySem.Spec PyProof.Rows L2
/-- a call's answer, whatever its kind -/
theorem call_is {t : Tab} {f k : Nat} {ts : List T} (r : R (T × List T)) (d : Fd) (h : t.fns[f]? = some d) (hio : d.io = [])
    (hs : Sat (S.runs (t.gm k []) d.body (initR d.N.length ts)) (fun _ => .ok (.fz .none, []) = r) (fun _ => False) (fun _ => False) (fun v => .ok (v, []) = r) (fun c fs => .ex c fs = r))
    (hl : ts.length = d.ps.length) (hf : ioB [] 0 ts = true) : t.call (k + 1) f ts = r := by
  rw [call_def h hio]
  unfold S.body
  rw [if_pos ⟨hl, hf⟩]
  cases er : S.runs (t.gm k []) d.body (initR d.N.length ts) with
  | nx ρ => rw [er] at hs; exact hs
  | rt u ρ => rw [er] at hs; exact hs
  | ct _ => rw [er] at hs; exact hs.elim
  | bk _ => rw [er] at hs; exact hs.elim
  | ex c fs ρ => rw [er] at hs; exact hs
  | no => rw [er] at hs; exact hs.elim
/-- nothing, or an exception -/
def thrR : Option (Nat × List D) → R (T × List T)
  | none => .ok (.fz .none, [])
  | some (c, fs) => .ex c fs
@[simp] theorem thrR_none : thrR none = .ok (.fz .none, []) := (rfl)
@[simp] theorem thrR_some (c : Nat) (fs : List D) : thrR (some (c, fs)) = .ex c fs := (rfl)
section
variable {N C B : Rho → Prop} {V : T → Prop} {E : Nat → List D → Prop}
theorem sat_loopD {F : D → Rho → Res} {G : Gam} {ss : List S} {xs : List D} {ρ : Rho} (I : List D → Rho → Prop) (h : I [] ρ)
    (s : ∀ (d : List D) (x : D) (r : List D) (ρ : Rho), xs = d ++ x :: r → I d ρ → Sat (F x ρ) (I (d ++ [x])) (I (d ++ [x])) (fun ρ => Sat (S.runs G ss ρ) N C B V E) V E)
    (k : ∀ ρ, I xs ρ → Sat (S.runs G ss ρ) N C B V E) : Sat ((forL F xs ρ).thn G ss) N C B V E := by
  have := sat_loop (e := id) (F := F) (G := G) (ss := ss) (xs := xs) (ρ := ρ) I h s k
  rwa [List.map_id] at this
/-- a loop over 0 .. n-1 -/
theorem sat_rng {F : D → Rho → Res} {G : Gam} {ss : List S} {n : Nat} {ρ : Rho} (I : Nat → Rho → Prop) (h : I 0 ρ)
    (s : ∀ (j : Nat) (ρ : Rho), j < n → I j ρ → Sat (F (.int (j : Int)) ρ) (I (j + 1)) (I (j + 1)) (fun ρ => Sat (S.runs G ss ρ) N C B V E) V E)
    (k : ∀ ρ, I n ρ → Sat (S.runs G ss ρ) N C B V E) : Sat ((forL F ((List.range n).map fun (k : Nat) => .int (k : Int)) ρ).thn G ss) N C B V E := by
  refine sat_loop (e := fun (k : Nat) => PyData.int (k : Int)) (fun d ρ => I d.length ρ) h (fun d x r ρ e hI => ?_) (fun ρ hI => k ρ (by simpa using hI))
  have hx : x = d.length ∧ d.length < n := by
    have h1 := congrArg (fun l => l[d.length]?) e
    simp at h1
    have h2 := congrArg List.length e
    simp at h2
    have h3 : d.length < n := by omega
    rw [List.getElem?_range h3] at h1
    simp at h1
    exact ⟨h1.symm, h3⟩
  obtain ⟨rfl, hn⟩ := hx
  have := s d.length ρ hn hI
  simpa using this
end
/-! ints in lists -/
theorem any_eqv (ns : List Int) (b : Int) : ((ns.map PyData.int).any fun z => PyData.eqv z (.int b)) = decide (b ∈ ns) := by
  induction ns with
  | nil => simp
  | cons n ns ih =>
    rw [List.map_cons, List.any_cons, ih]
    by_cases h : n = b
    · subst h; simp [PyData.eqv]
    · have h2 : ¬ b = n := fun z => h z.symm
      simp [PyData.eqv, h, h2]
theorem dp_ints (ns : List Int) : PyData.depthAll (ns.map .int) = 0 := by
  induction ns with
  | nil => simp
  | cons n ns ih => simp [ih]
@[simp] theorem cin_ints (b : Int) (ns : List Int) : cmpD .isIn (.int b) (.list (ns.map .int)) = .ok (decide (b ∈ ns)) := by
  show (if (PyData.depth (.int b) ≤ 64 ∧ PyData.depthAll (ns.map .int) < 64) ∧ nd (.int b) = true ∧ nds (ns.map .int) = true then (R.ok ((ns.map PyData.int).any fun z => PyData.eqv z (.int b))) else .no) = _
  rw [if_pos ⟨⟨by simp, by rw [dp_ints]; decide⟩, rfl, nds_map fun _ _ => rfl⟩, any_eqv]
@[simp] theorem cnin_ints (b : Int) (ns : List Int) : cmpD .notIn (.int b) (.list (ns.map .int)) = .ok (!decide (b ∈ ns)) := by
  show (do return !(← cmpD .isIn (.int b) (.list (ns.map .int))) : R Bool) = _
  rw [cin_ints]
  rfl
/-! places -/
theorem at_get {α : Type} {xs : List α} {i : Nat} {x : α} (h : xs[i]? = some x) : atI xs (i : Int) = some x := by
  obtain ⟨hi, hx⟩ := List.getElem?_eq_some_iff.mp h
  rw [at_nat xs (i : Int) (by omega) (by simpa using hi)]
  simpa using hx
theorem at_getE {α β : Type} (e : α → β) {xs : List α} {i : Nat} {x : α} (h : xs[i]? = some x) : atI (xs.map e) (i : Int) = some (e x) := by
  rw [at_map, at_get h]
  rfl
theorem ix_nat {n i : Nat} (h : i < n) : ixN n (i : Int) = some i := by
  unfold ixN
  rw [if_pos (by omega), if_pos (by omega)]
  simp
theorem fzs_set {α : Type} (e : α → D) (xs : List α) (i : Nat) (x : α) : (fzs (xs.map e)).set i (.fz (e x)) = fzs ((xs.set i x).map e) := by simp [fzs, List.map_set]
theorem fzs_getE {α : Type} (e : α → D) {xs : List α} {i : Nat} {x : α} (h : xs[i]? = some x) : (fzs (xs.map e))[i]? = some (.fz (e x)) := by simp [fzs, h]
theorem fzs_eraseE {α : Type} (e : α → D) : ∀ (xs : List α) (i : Nat), (fzs (xs.map e)).eraseIdx i = fzs ((xs.eraseIdx i).map e)
  | [], _ => rfl
  | _ :: _, 0 => rfl
  | x :: xs, i + 1 => by
    have := fzs_eraseE e xs i
    simp only [List.map_cons, fzs, List.eraseIdx_cons_succ] at this ⊢
    rw [this]
theorem rng_nat (n : Nat) (h : n < 100000000) : rngD 0 (n : Int) = .ok ((List.range n).map fun (k : Nat) => .int (k : Int)) := by
  rw [rng_ok0 _ (by omega) (by omega)]
  simp
/-- a remainder is a place -/
theorem mod_nat (a : Int) (n : Nat) (h : 0 < n) : ∃ j : Nat, a % (n : Int) = (j : Int) ∧ j < n :=
  ⟨(a % (n : Int)).toNat, by have := Int.emod_nonneg a (show (n : Int) ≠ 0 by omega); omega, by
    have h1 := Int.emod_nonneg a (show (n : Int) ≠ 0 by omega)
    have h2 := Int.emod_lt_of_pos a (show (0 : Int) < n by omega)
    omega⟩
section
variable {α : Type}
theorem compL_mapT (F : D → R (Option T)) (e : α → D) (g : α → T) (xs : List α) (h : ∀ x ∈ xs, F (e x) = .ok (some (g x))) : compL F (xs.map e) = .ok (xs.map g) := by
  rw [compL_map F e (fun x => some (g x)) xs h]
  simp
theorem bi_allF (f : α → Bool) (xs : List α) : biD true .all [.list (xs.map fun x => .bool (f x))] = .ok (.fz (.bool (xs.all f))) := by
  have e : (xs.map fun x => PyData.bool (f x)) = (xs.map f).map .bool := by rw [List.map_map]; rfl
  rw [e, bi_all]
  simp [List.all_map]
theorem bi_sumF (f : α → Int) (xs : List α) : biD true .sum [.list (xs.map fun x => .int (f x))] = .ok (.fz (.int (xs.map f).sum)) := by
  have e : (xs.map fun x => PyData.int (f x)) = (xs.map f).map .int := by rw [List.map_map]; rfl
  rw [e]
  show (do return .fz (.int (← R.of (intsOf ((xs.map f).map .int))).sum) : R T) = _
  rw [intsOf_map]
  rfl
theorem d_rows (e : α → D) (tt : List (List α)) : T.d (.lst (tt.map fun r => .lst (fzs (r.map e)))) = .list (tt.map fun r => .list (r.map e)) := by
  simp [T.d, T.ds_map, fzs, Function.comp_def]
end
@[simp] theorem nat_lt0 (j : Nat) : ((j : Int) < 0) = False := by simp
end Gn

set_option Elab.async false
set_option linter.all false
set_option maxRecDepth 100000
set_option maxHeartbeats 1000000
namespace Gn
open PySem PySem.Spec PyProof.Rows L2
/-! ### equations: calls that change their arguments -/
@[simp] theorem rs_bindR_ok {α : Type} (a : α) (ρ : Rho) (f : α → Rho → Res) : (RS.ok a ρ).bindR f = f a ρ := (rfl)
@[simp] theorem rs_bindR_ex {α : Type} (c : Nat) (fs : List D) (ρ : Rho) (f : α → Rho → Res) : (RS.ex c fs ρ : RS α).bindR f = .ex c fs ρ := (rfl)
@[simp] theorem rs_then_ok {α β : Type} (a : α) (ρ : Rho) (f : α → Rho → RS β) : (RS.ok a ρ).andThen f = f a ρ := (rfl)
@[simp] theorem rs_then_ex {α β : Type} (c : Nat) (fs : List D) (ρ : Rho) (f : α → Rho → RS β) : (RS.ex c fs ρ : RS α).andThen f = .ex c fs ρ := (rfl)
@[simp] theorem r_st_ok {α : Type} (a : α) (ρ : Rho) : (R.ok a).st ρ = .ok a ρ := (rfl)
@[simp] theorem r_st_ex {α : Type} (c : Nat) (fs : List D) (ρ : Rho) : (R.ex c fs : R α).st ρ = .ex c fs ρ := (rfl)
@[simp] theorem lf1_int (i : Int) : lf1 (.ok (.fz (.int i))) = .ok (.fz (.int i)) := lf1_ok _ rfl
@[simp] theorem lf1_bool (i : Bool) : lf1 (.ok (.fz (.bool i))) = .ok (.fz (.bool i)) := lf1_ok _ rfl
@[simp] theorem lf1_str (i : Str) : lf1 (.ok (.fz (.str i))) = .ok (.fz (.str i)) := lf1_ok _ rfl
@[simp] theorem lf1_none : lf1 (.ok (.fz .none)) = .ok (.fz .none) := lf1_ok _ rfl
def frz1 : R T → R T
  | .ok t => .ok (.fz t.d)
  | .ex c f => .ex c f
  | .no => .no
@[simp] theorem frz1_ok (t : T) : frz1 (.ok t) = .ok (.fz t.d) := (rfl)
@[simp] theorem frz1_ex (c : Nat) (f : List D) : frz1 (.ex c f) = .ex c f := (rfl)
section
variable (G : Gam) (ρ : Rho)
@[simp] theorem ag_dr (p : P) : Ag.ev G ρ (.val p .dr) = frz1 (p.ev G (drop ρ)) := by
  show (do return .fz (← p.ev G (drop ρ)).d : R T) = _
  cases p.ev G (drop ρ) <;> rfl
@[simp] theorem ag_lf (p : P) : Ag.ev G ρ (.val p .lf) = frz1 (lf1 (p.ev G ρ)) := by
  show (do return .fz (← (do
    let t ← p.ev G ρ
    if t.lf then .ok t else .no : R T)).d : R T) = _
  cases p.ev G ρ with
  | ok t =>
    show (do return T.fz (← (if t.lf = true then .ok t else .no : R T)).d : R T) = frz1 (if t.lf = true then .ok t else .no)
    by_cases h : t.lf = true
    · rw [if_pos h]; rfl
    · rw [if_neg h]; rfl
  | ex _ _ => rfl
  | no => rfl
@[simp] theorem ag_sl (i : Nat) : Ag.ev G ρ (.slot i) = slotT ρ i := (rfl)
def itmR (ρ : Rho) : R (List T) → R T → R T
  | .ok ts, .ok u => do
    let n ← ixD ts.length u.d
    let d ← fzT ts[n]?
    return .fz d
  | .ok _, .ex c f => .ex c f
  | .ok _, .no => .no
  | .ex c f, _ => .ex c f
  | .no, _ => .no
theorem itmR_ok (ρ : Rho) (ts : List T) (k : Int) (n : Nat) (d : D) (h : ixN ts.length k = some n) (h2 : ts[n]? = some (.fz d)) : itmR ρ (.ok ts) (.ok (.fz (.int k))) = .ok (.fz d) := by
  show (do
    let n ← R.of (ixN ts.length k)
    let d ← fzT ts[n]?
    return T.fz d : R T) = _
  rw [h]
  show (do
    let d ← fzT ts[n]?
    return T.fz d : R T) = _
  rw [h2]
  rfl
@[simp] theorem ag_im (i : Nat) (p : P) : Ag.ev G ρ (.itm i p) = itmR ρ (slotL ρ i) (p.ev G ρ) := by
  show (do
    let ts ← slotL ρ i
    let u ← p.ev G ρ
    let n ← ixD ts.length u.d
    let d ← fzT ts[n]?
    return T.fz d : R T) = _
  cases slotL ρ i with
  | ok ts => cases p.ev G ρ <;> rfl
  | ex _ _ => rfl
  | no => rfl
@[simp] theorem ag_tm (p : P) : Ag.ev G ρ (.tmp p) = p.ev G (drop ρ) := (rfl)
@[simp] theorem ags_nl : Ag.evs G [] ρ = .ok [] := (rfl)
@[simp] theorem ags_cs (a : Ag) (as : List Ag) : Ag.evs G (a :: as) ρ = cons2 (a.ev G ρ) (Ag.evs G as ρ) := by
  show (do
    let t ← a.ev G ρ
    let ts ← Ag.evs G as ρ
    return t :: ts : R (List T)) = _
  cases a.ev G ρ <;> first | rfl | (cases Ag.evs G as ρ <;> rfl)
def agsR (ρ : Rho) (f : List T → RS T) : R (List T) → RS T
  | .ok ts => f ts
  | .ex c fs => .ex c fs ρ
  | .no => .no
@[simp] theorem agsR_ok (f : List T → RS T) (ts : List T) : agsR ρ f (.ok ts) = f ts := (rfl)
@[simp] theorem cc_call (k : Nat) (io : List Nat) (as : List Ag) : Cc.ev G (.call k io as) ρ = agsR ρ (callS G k io as ρ) (Ag.evs G as ρ) := by
  show (match Ag.evs G as ρ with
    | .ok ts => callS G k io as ρ ts
    | .ex c fs => .ex c fs ρ
    | .no => .no) = _
  cases Ag.evs G as ρ <;> rfl
@[simp] theorem cc_ln (c : Cc) : Cc.ev G (.len c) ρ = (c.ev G ρ).andThen fun t ρ' => (biD G.calm .len [t.d]).st ρ' := (rfl)
@[simp] theorem ct_tr (c : Cc) : Ct.ev G (.tru c) ρ = (c.ev G ρ).andThen fun t ρ' => (truD t.d).st ρ' := (rfl)
def notR : R Bool → R Bool
  | .ok b => .ok (!b)
  | .ex c f => .ex c f
  | .no => .no
@[simp] theorem notR_ok (b : Bool) : notR (.ok b) = .ok (!b) := (rfl)
@[simp] theorem ct_nt (c : Cc) : Ct.ev G (.ntru c) ρ = (c.ev G ρ).andThen fun t ρ' => (notR (truD t.d)).st ρ' := by
  show ((c.ev G ρ).andThen fun t ρ' => (do return !(← truD t.d) : R Bool).st ρ') = _
  congr 1
  funext t ρ'
  cases truD t.d <;> rfl
def cmpB (o : CmpO) (d : D) : R T → R Bool
  | .ok u => cmpD o d u.d
  | .ex c f => .ex c f
  | .no => .no
@[simp] theorem cmpB_ok (o : CmpO) (d : D) (u : T) : cmpB o d (.ok u) = cmpD o d u.d := (rfl)
@[simp] theorem ct_cm (o : CmpO) (c : Cc) (q : P) : Ct.ev G (.cmp o c q) ρ = (c.ev G ρ).andThen fun t ρ' => (cmpB o t.d (q.ev G ρ')).st ρ' := by
  show ((c.ev G ρ).andThen fun t ρ' => (do cmpD o t.d (← q.ev G ρ').d : R Bool).st ρ') = _
  congr 1
  funext t ρ'
  cases q.ev G ρ' <;> rfl
theorem tst_one (p : P) : P.tst G p ρ = tst1 (p.ev G ρ) := by
  show (do truD (← p.ev G ρ).d : R Bool) = _
  cases p.ev G ρ <;> rfl
def orS (ρ : Rho) (r : RS Bool) : R Bool → RS Bool
  | .ok true => .ok true ρ
  | .ok false => r
  | .ex c fs => .ex c fs ρ
  | .no => .no
@[simp] theorem orS_t (r : RS Bool) : orS ρ r (.ok true) = .ok true ρ := (rfl)
@[simp] theorem orS_f (r : RS Bool) : orS ρ r (.ok false) = r := (rfl)
@[simp] theorem ct_or (p : P) (t : Ct) : Ct.ev G (.orr p t) ρ = orS ρ (t.ev G ρ) (tst1 (p.ev G ρ)) := by
  show ((P.tst G p ρ).st ρ).andThen (fun b ρ' => if b then .ok true ρ' else t.ev G ρ') = _
  rw [tst_one]
  cases tst1 (p.ev G ρ) with
  | ok b => cases b <;> rfl
  | ex _ _ => rfl
  | no => rfl
def itS (G : Gam) (a b : List S) (z : Bool) (ρ : Rho) : Res := if z then S.runs G a ρ else S.runs G b ρ
@[simp] theorem itS_t (a b : List S) : itS G a b true ρ = S.runs G a ρ := (rfl)
@[simp] theorem itS_f (a b : List S) : itS G a b false ρ = S.runs G b ρ := (rfl)
@[simp] theorem run_itec (t : Ct) (a b : List S) : S.run G (.itec t a b) ρ = (t.ev G ρ).bindR (itS G a b) := (rfl)
@[simp] theorem run_retdr (p : P) : S.run G (.ret p .dr) ρ = retR ρ ρ (p.ev G (drop ρ)) := by
  show (p.ev G (drop ρ)).bindR ρ (fun t => .rt t ρ) = _
  cases p.ev G (drop ρ) <;> rfl
@[simp] theorem run_retlf (p : P) : S.run G (.ret p .lf) ρ = retR ρ ρ (lf1 (p.ev G ρ)) := by
  show (do
    let t ← p.ev G ρ
    if t.lf then .ok t else .no : R T).bindR ρ (fun t => .rt t ρ) = _
  cases p.ev G ρ with
  | ok t =>
    show (if t.lf = true then .ok t else .no : R T).bindR ρ _ = retR ρ ρ (if t.lf = true then .ok t else .no)
    by_cases h : t.lf = true
    · rw [if_pos h]; rfl
    · rw [if_neg h]; rfl
  | ex _ _ => rfl
  | no => rfl
@[simp] theorem run_exc (c : Cc) : S.run G (.exc c) ρ = (c.ev G ρ).bindR fun _ ρ' => .nx ρ' := (rfl)
@[simp] theorem run_asc (i : Nat) (c : Cc) (own : Bool) : S.run G (.asc i c own) ρ = (c.ev G ρ).bindR fun t ρ' => .nx (ρ'.set i (some (if own then t else .fz t.d))) := (rfl)
@[simp] theorem run_retc (c : Cc) : S.run G (.retc c) ρ = (c.ev G ρ).bindR fun t ρ' => .rt t ρ' := (rfl)
def lsR : R T → R (List D)
  | .ok t => listD t.d
  | .ex c f => .ex c f
  | .no => .no
@[simp] theorem lsR_ok (t : T) : lsR (.ok t) = listD t.d := (rfl)
@[simp] theorem listD_l (ds : List D) : listD (.list ds) = .ok ds := (rfl)
@[simp] theorem run_forx (tg : Tg) (p q : P) (body : List S) : S.run G (.forx tg p q body) ρ = forR (lpF G tg body) ρ (lsR (idx2 (p.ev G (drop ρ)) (q.ev G ρ))) := by
  show (itemsX G p q ρ).bindR ρ (fun ds => forL (fun d ρ => (tg.set d ρ).bindR ρ fun ρ' => S.runs G body ρ') ds ρ) = _
  have e : itemsX G p q ρ = lsR (idx2 (p.ev G (drop ρ)) (q.ev G ρ)) := by
    show (do
      let t ← p.ev G (drop ρ)
      let u ← q.ev G ρ
      let r ← idxD t.d u.d
      listD r.d : R (List D)) = _
    cases p.ev G (drop ρ) with
    | ok t =>
      cases q.ev G ρ with
      | ok u =>
        show (do
          let r ← idxD t.d u.d
          listD r.d : R (List D)) = lsR (idxD t.d u.d)
        cases idxD t.d u.d <;> rfl
      | ex _ _ => rfl
      | no => rfl
    | ex _ _ => rfl
    | no => rfl
  rw [e]
  cases lsR (idx2 (p.ev G (drop ρ)) (q.ev G ρ)) <;> rfl
end
theorem callS_ok {G : Gam} {k : Nat} {io : List Nat} {as : List Ag} {ρ ρ' : Rho} {ts outs : List T} {t : T} (h1 : ioB io 0 ts = true) (h2 : G.fn k ts = .ok (t, outs)) (h3 : Ag.put as io outs (Ag.blank as ρ) = .ok ρ') : callS G k io as ρ ts = .ok t ρ' := by
  unfold callS
  rw [if_pos h1, h2]
  show (match Ag.put as io outs (Ag.blank as ρ) with
    | .ok ρ' => RS.ok t ρ'
    | _ => .no) = _
  rw [h3]
/-- a def that changes its arguments -/
theorem call_gen {t : Tab} {f k : Nat} {ts : List T} {d : Fd} (h : t.fns[f]? = some d) : t.call (k + 1) f ts = S.body (t.gm k d.io) d.N.length d.ps.length d.body ts := by
  show (match t.fns[f]? with
    | some d => S.body (t.gam (t.call k) d) d.N.length d.ps.length d.body ts
    | none => .no) = _
  rw [h]
  rfl
theorem call_io {t : Tab} {f k : Nat} {ts outs : List T} {u : T} {ρ : Rho} (d : Fd) (h : t.fns[f]? = some d) (hs : S.runs (t.gm k d.io) d.body (initR d.N.length ts) = .rt u ρ) (ho : outsOf d.io ρ = .ok outs) (hl : ts.length = d.ps.length) (hf : ioB d.io 0 ts = true) : t.call (k + 1) f ts = .ok (u, outs) := by
  rw [call_gen h]
  unfold S.body
  rw [if_pos ⟨hl, hf⟩, hs]
  show (do return (u, ← outsOf d.io ρ) : R (T × List T)) = _
  rw [ho]
  rfl
theorem call_ion {t : Tab} {f k : Nat} {ts outs : List T} {ρ : Rho} (d : Fd) (h : t.fns[f]? = some d) (hs : S.runs (t.gm k d.io) d.body (initR d.N.length ts) = .nx ρ) (ho : outsOf d.io ρ = .ok outs) (hl : ts.length = d.ps.length) (hf : ioB d.io 0 ts = true) : t.call (k + 1) f ts = .ok (.fz .none, outs) := by
  rw [call_gen h]
  unfold S.body
  rw [if_pos ⟨hl, hf⟩, hs]
  show (do return (T.fz .none, ← outsOf d.io ρ) : R (T × List T)) = _
  rw [ho]
  rfl
/-- xs = [[..], ..]; for x in xs: x.append(p) -/
theorem appeF_go {G : Gam} {t i : Nat} {p : P} {m : Md} {v : T} (ti : t ≠ i) : ∀ (B A : List (List T)) (ρ : Rho), ρ[t]? = some none → ρ[i]? = some (some (.lst ((A ++ B).map .lst))) → (∀ us ∈ B, us.length < sizeLine) →
    (∀ xs : List T, p.evm G m (ρ.set i (some (.lst xs))) = .ok v) → appeF G t i p m B.length A.length ρ = .nx (ρ.set i (some (.lst ((A ++ B.map (· ++ [v])).map .lst))))
  | [], A, ρ, ht, hi, hz, hv => by
    obtain ⟨l, q⟩ := List.getElem?_eq_some_iff.mp hi
    show Res.nx ρ = _
    simp only [List.map_nil]
    rw [← q]
    simp
  | us :: B, A, ρ, ht, hi, hz, hv => by
    have et : ρ.set t none = ρ := by
      obtain ⟨l, q⟩ := List.getElem?_eq_some_iff.mp ht
      rw [← q]
      simp
    have li := (List.getElem?_eq_some_iff.mp hi).1
    have es : ρ.set i (some (.lst ((A ++ us :: B).map .lst))) = ρ := by
      obtain ⟨l, q⟩ := List.getElem?_eq_some_iff.mp hi
      rw [← q]
      simp
    have e0 : slotL ρ i = .ok ((A ++ us :: B).map .lst) := by
      unfold slotL
      rw [hi]
    have e1 : subL ((A ++ us :: B).map T.lst) A.length = .ok us := by
      unfold subL
      simp
    have e2 : p.evm G m ρ = .ok v := by
      have := hv ((A ++ us :: B).map .lst)
      rw [es] at this
      exact this
    show (slotL (ρ.set t none) i).bindR (ρ.set t none) _ = _
    rw [et, e0, R.bindR_ok, e1, R.bindR_ok, e2, R.bindR_ok, if_pos (hz us (by simp))]
    have e3 : ((A ++ us :: B).map T.lst).set A.length (.lst (us ++ [v])) = ((A ++ [us ++ [v]]) ++ B).map T.lst := by simp
    rw [e3]
    have := appeF_go (G := G) (t := t) (i := i) (p := p) (m := m) (v := v) ti B (A ++ [us ++ [v]]) (ρ.set i (some (.lst (((A ++ [us ++ [v]]) ++ B).map .lst)))) (by rw [List.getElem?_set_ne (Ne.symm ti)]; exact ht) (List.getElem?_set_self li) (fun u hu => hz u (by simp [hu])) (fun xs => by rw [List.set_set]; exact hv xs)
    rw [List.length_append] at this
    rw [show A.length + 1 = A.length + [us ++ [v]].length from rfl, this, List.set_set]
    simp
theorem run_appe {G : Gam} {t i : Nat} {p : P} {m : Md} {v : T} {ρ : Rho} (B : List (List T)) (ti : t ≠ i) (ht : ρ[t]? = some none) (hi : ρ[i]? = some (some (.lst (B.map .lst)))) (hz : ∀ us ∈ B, us.length < sizeLine)
    (hv : ∀ xs : List T, p.evm G m (ρ.set i (some (.lst xs))) = .ok v) : S.run G (.appe t i p m) ρ = .nx (ρ.set i (some (.lst ((B.map (· ++ [v])).map .lst)))) := by
  have e0 : slotL ρ i = .ok (B.map .lst) := by
    unfold slotL
    rw [hi]
  show (slotL ρ i).bindR ρ _ = _
  rw [e0, R.bindR_ok, List.length_map]
  exact appeF_go ti B [] ρ ht hi hz hv
end Gn

set_option Elab.async false
set_option linter.all false
set_option maxRecDepth 100000
set_option maxHeartbeats 0

namespace LawX
open PySem PySem.Spec PyProof.Rows L2 Gn
def top (i : Nat) : Stmt := PySem.Challenge.pw_parcelbank_k25_bookings_taken_in_turn.main.body.getD i (.Pass ⟨0, 0, 0, 0⟩)
def f_is_integer : Fd := ⟨5, "is_integer", ["value"], ["value"], [],
  [.ret (.andv (.isi (.var 0) .int) (.notv (.isi (.var 0) .bool))) .full]⟩
def f_in_range : Fd := ⟨6, "in_range", ["value", "low", "high"], ["value", "low", "high"], [],
  [.ret (.andv (.call 0 [(.var 0)]) (.andv (.cmp .le (.var 1) (.var 0)) (.cmp .le (.var 0) (.var 2)))) .full]⟩
def f_is_ascending : Fd := ⟨7, "is_ascending", ["value", "low", "high"], ["value", "low", "high", "last", "item"], [],
  [.ite (.notv (.isi (.var 0) .list))
  [.ret (.cst (.bool false)) .full]
  [],
  .asg 3 (.bin .sub (.var 1) (.cst (.int 1))) .dr false,
  .for1 (.one 4) .seq [(.var 0)]
  [.ite (.orv (.notv (.call 1 [(.var 4), (.var 1), (.var 2)])) (.cmp .le (.var 4) (.var 3)))
  [.ret (.cst (.bool false)) .full]
  [],
  .asg 3 (.var 4) .dr false],
  .ret (.cst (.bool true)) .full]⟩
def f_need_range : Fd := ⟨8, "need_range", ["value", "low", "high", "what"], ["value", "low", "high", "what"], [],
  [.ite (.notv (.call 1 [(.var 0), (.var 1), (.var 2)]))
  [.rais 0 [(.var 3)]]
  []]⟩
def f_need_list : Fd := ⟨9, "need_list", ["value", "limit", "what"], ["value", "limit", "what"], [],
  [.ite (.notv (.isi (.var 0) .list))
  [.rais 0 [(.var 2)]]
  [],
  .ite (.cmp .gt (.bi .len [(.var 0)]) (.var 1))
  [.rais 1 [(.var 1)]]
  []]⟩
def f_is_time : Fd := ⟨12, "is_time", ["value"], ["value"], [],
  [.ret (.call 1 [(.var 0), (.cst (.int 0)), (.glob 0)]) .full]⟩
def f_is_stay : Fd := ⟨15, "is_stay", ["value"], ["value"], [],
  [.ite (.orv (.notv (.isi (.var 0) .tuple)) (.cmp .ne (.bi .len [(.var 0)]) (.cst (.int 2))))
  [.ret (.cst (.bool false)) .full]
  [],
  .ret (.andv (.call 5 [(.idx (.var 0) (.cst (.int 0)))]) (.andv (.call 5 [(.idx (.var 0) (.cst (.int 1)))]) (.cmp .lt (.idx (.var 0) (.cst (.int 0))) (.idx (.var 0) (.cst (.int 1)))))) .full]⟩
def f_need_stay : Fd := ⟨16, "need_stay", ["value", "what"], ["value", "what"], [],
  [.ite (.notv (.call 6 [(.var 0)]))
  [.rais 0 [(.var 1)]]
  []]⟩
def f_need_stays : Fd := ⟨17, "need_stays", ["value", "limit", "what"], ["value", "limit", "what", "stay"], [],
  [.expr (.call 4 [(.var 0), (.var 1), (.var 2)]),
  .for1 (.one 3) .seq [(.var 0)]
  [.expr (.call 7 [(.var 3), (.var 2)])]]⟩
def f_has_moment : Fd := ⟨18, "has_moment", ["stay", "moment"], ["stay", "moment"], [],
  [.ret (.andv (.cmp .le (.idx (.var 0) (.cst (.int 0))) (.var 1)) (.cmp .lt (.var 1) (.idx (.var 0) (.cst (.int 1))))) .full]⟩
def f_need_shared : Fd := ⟨21, "need_shared", ["stays", "count", "what"], ["stays", "count", "what"], [],
  [.expr (.call 8 [(.var 0), (.glob 1), (.var 2)]),
  .expr (.call 3 [(.var 1), (.cst (.int 0)), (.glob 2), (.cst (.str "count"))])]⟩
def f_stay_order : Fd := ⟨22, "stay_order", ["stays"], ["stays", "number"], [],
  [.ret (.srtr (.bi .len [(.var 0)]) 1 (.pr (.ix (.ix (.v 0) (.v 1)) (.n 0)) (.v 1))) .full]⟩
def f_accepted : Fd := ⟨24, "accepted", ["stays", "count"], ["stays", "count", "members", "number", "start", "present", "member"], [],
  [.asg 2 (.lst []) .dr true,
  .for1 (.one 3) .seq [(.call 11 [(.var 0)])]
  [.app 2 (.var 3) .dr,
  .asg 4 (.idx (.idx (.var 0) (.var 3)) (.cst (.int 0))) .dr false,
  .asg 5 (.comp (.var 6) 6 .seq [(.var 2)] [(.call 9 [(.idx (.var 0) (.var 6)), (.var 4)])]) .lf false,
  .ite (.cmp .gt (.bi .len [(.var 5)]) (.var 1))
  [.rmv 2 (.maxk (.var 5) 6 (.pr (.ix (.ix (.v 0) (.v 6)) (.n 1)) (.v 6)))]
  []],
  .ret (.bi .sorted [(.var 2)]) .full]⟩
def f_most_bookings : Fd := ⟨25, "most_bookings", ["stays", "count"], ["stays", "count"], [],
  [.expr (.call 10 [(.var 0), (.var 1), (.cst (.str "stays"))]),
  .ret (.call 12 [(.var 0), (.var 1)]) .full]⟩
def f_is_accepted : Fd := ⟨26, "is_accepted", ["stays", "count", "members"], ["stays", "count", "members", "number", "start", "member"], [],
  [.expr (.call 10 [(.var 0), (.var 1), (.cst (.str "stays"))]),
  .ite (.notv (.call 2 [(.var 2), (.cst (.int 0)), (.bin .sub (.bi .len [(.var 0)]) (.cst (.int 1)))]))
  [.ret (.cst (.bool false)) .full]
  [],
  .for1 (.one 3) .seq [(.var 2)]
  [.asg 4 (.idx (.idx (.var 0) (.var 3)) (.cst (.int 0))) .dr false,
  .ite (.cmp .gt (.bi .len [(.comp (.var 5) 5 .seq [(.var 2)] [(.call 9 [(.idx (.var 0) (.var 5)), (.var 4)])])]) (.var 1))
  [.ret (.cst (.bool false)) .full]
  []],
  .ret (.cst (.bool true)) .full]⟩
def f__law_cell : Fd := ⟨28, "_law_cell", ["script", "k"], ["script", "k"], [],
  [.ite (.cmp .lt (.var 1) (.bi .len [(.var 0)]))
  [.ret (.bi .int [(.idx (.var 0) (.var 1))]) .full]
  [],
  .ite (.cmp .gt (.bi .len [(.var 0)]) (.cst (.int 0)))
  [.ret (.bin .add (.bin .mul (.bin .mod (.bi .int [(.idx (.var 0) (.cst (.int 0)))]) (.cst (.int 1000003))) (.cst (.int 97))) (.bin .mul (.cst (.int 31)) (.var 1))) .full]
  [],
  .ret (.bin .mul (.cst (.int 31)) (.var 1)) .full]⟩
def f__law_row : Fd := ⟨29, "_law_row", ["cell", "many", "limit"], ["cell", "many", "limit", "rest", "numbers", "k", "state"], [],
  [.asg 3 (.bi .abs [(.var 0)]) .dr false,
  .asg 4 (.lst []) .dr true,
  .ite (.cmp .ge (.var 3) (.bin .pow (.cst (.int 10)) (.cst (.int 18))))
  [.asg 3 (.bin .sub (.var 3) (.bin .pow (.cst (.int 10)) (.cst (.int 18)))) .dr false,
  .for1 (.one 5) .rng1 [(.var 1)]
  [.app 4 (.bin .mod (.bi .int [(.var 3)]) (.var 2)) .dr,
  .asg 3 (.bin .fdiv (.var 3) (.var 2)) .dr false],
  .retm 4]
  [],
  .asg 6 (.bin .mod (.bi .int [(.bin .add (.bin .mul (.var 3) (.cst (.int 48271))) (.cst (.int 11)))]) (.cst (.int 2147483647))) .dr false,
  .for1 (.one 5) .rng1 [(.var 1)]
  [.asg 6 (.bin .mod (.bi .int [(.bin .add (.bin .add (.bin .mul (.var 6) (.cst (.int 69621))) (.bin .mul (.var 5) (.cst (.int 48271)))) (.var 3))]) (.cst (.int 2147483629))) .dr false,
  .app 4 (.bin .mod (.bi .int [(.bin .fdiv (.var 6) (.cst (.int 7)))]) (.var 2)) .dr],
  .retm 4]⟩
def f__law_stays : Fd := ⟨30, "_law_stays", ["script", "at", "many"], ["script", "at", "many", "shape", "wide", "far", "base", "starts", "lengths", "k"], [],
  [.asg 3 (.bin .mod (.bi .int [(.idx (.call 16 [(.call 15 [(.var 0), (.var 1)]), (.cst (.int 1)), (.cst (.int 60))]) (.cst (.int 0)))]) (.cst (.int 4))) .dr false,
  .asg 4 (.idx (.lst [(.cst (.int 8)), (.cst (.int 40)), (.cst (.int 1000000)), (.cst (.int 8))]) (.var 3)) .dr false,
  .asg 5 (.idx (.lst [(.cst (.int 6)), (.cst (.int 25)), (.cst (.int 1000000)), (.cst (.int 6))]) (.var 3)) .dr false,
  .asg 6 (.idx (.lst [(.cst (.int 0)), (.cst (.int 0)), (.cst (.int 0)), (.cst (.int 999990))]) (.var 3)) .dr false,
  .asg 7 (.call 16 [(.call 15 [(.var 0), (.bin .add (.var 1) (.cst (.int 1)))]), (.var 2), (.var 4)]) .dr false,
  .asg 8 (.call 16 [(.call 15 [(.var 0), (.bin .add (.var 1) (.cst (.int 2)))]), (.var 2), (.var 5)]) .dr false,
  .ret (.comp (.tup [(.bin .add (.var 6) (.idx (.var 7) (.var 9))), (.bi .min2 [(.cst (.int 1000000)), (.bin .add (.bin .add (.bin .add (.var 6) (.idx (.var 7) (.var 9))) (.cst (.int 1))) (.idx (.var 8) (.var 9)))])]) 9 .rng1 [(.var 2)] []) .full]⟩
def f__law_whole : Fd := ⟨31, "_law_whole", ["value"], ["value"], [],
  [.ret (.andv (.isi (.var 0) .int) (.notv (.isi (.var 0) .bool))) .full]⟩
def f__law_holds : Fd := ⟨32, "_law_holds", ["stay", "moment"], ["stay", "moment"], [],
  [.ret (.andv (.cmp .le (.idx (.var 0) (.cst (.int 0))) (.var 1)) (.cmp .lt (.var 1) (.idx (.var 0) (.cst (.int 1))))) .full]⟩
def f__law_load : Fd := ⟨33, "_law_load", ["stays", "moment"], ["stays", "moment", "stay"], [],
  [.ret (.bi .len [(.comp (.var 2) 2 .seq [(.var 0)] [(.call 19 [(.var 2), (.var 1)])])]) .full]⟩
def f__law_members : Fd := ⟨34, "_law_members", ["value", "many"], ["value", "many", "last", "item"], [],
  [.ite (.notv (.isi (.var 0) .list))
  [.ret (.cst (.bool false)) .full]
  [],
  .asg 2 (.neg (.cst (.int 1))) .dr false,
  .for1 (.one 3) .seq [(.var 0)]
  [.ite (.orv (.notv (.call 18 [(.var 3)])) (.orv (.cmp .le (.var 3) (.var 2)) (.cmp .ge (.var 3) (.var 1))))
  [.ret (.cst (.bool false)) .full]
  [],
  .asg 2 (.var 3) .dr false],
  .ret (.cst (.bool true)) .full]⟩
def f__law_booked : Fd := ⟨35, "_law_booked", ["stays", "count"], ["stays", "count", "members", "pair", "present", "k"], [],
  [.asg 2 (.lst []) .dr true,
  .for1 (.one 3) .seq [(.bi .sortedD [(.comp (.tup [(.idx (.idx (.var 0) (.var 5)) (.cst (.int 0))), (.var 5)]) 5 .rng1 [(.bi .len [(.var 0)])] [])])]
  [.app 2 (.idx (.var 3) (.cst (.int 1))) .dr,
  .asg 4 (.comp (.tup [(.idx (.idx (.var 0) (.var 5)) (.cst (.int 1))), (.var 5)]) 5 .seq [(.var 2)] [(.call 19 [(.idx (.var 0) (.var 5)), (.idx (.var 3) (.cst (.int 0)))])]) .lf false,
  .ite (.cmp .gt (.bi .len [(.var 4)]) (.var 1))
  [.rmv 2 (.idx (.bi .maxD [(.var 4)]) (.cst (.int 1)))]
  []],
  .ret (.bi .sorted [(.var 2)]) .full]⟩
def f__law_is_accepted : Fd := ⟨36, "_law_is_accepted", ["stays", "count", "members"], ["stays", "count", "members", "held", "k", "stay"], [],
  [.ite (.notv (.call 21 [(.var 2), (.bi .len [(.var 0)])]))
  [.ret (.cst (.bool false)) .full]
  [],
  .asg 3 (.comp (.idx (.var 0) (.var 4)) 4 .seq [(.var 2)] []) .dr false,
  .ret (.bi .all [(.comp (.cmp .le (.call 20 [(.var 3), (.idx (.var 5) (.cst (.int 0)))]) (.var 1)) 5 .seq [(.var 3)] [])]) .full]⟩
def f__law_bits : Fd := ⟨37, "_law_bits", ["cell", "many"], ["cell", "many", "found", "numbers", "share", "k"], [],
  [.asg 2 (.lst []) .dr true,
  .asg 3 (.call 16 [(.var 0), (.cst (.int 60)), (.cst (.int 60))]) .dr false,
  .asg 4 (.bin .mod (.bi .int [(.idx (.var 3) (.cst (.int 59)))]) (.cst (.int 5))) .dr false,
  .for1 (.one 5) .rng1 [(.var 1)]
  [.ite (.cmp .le (.bin .mod (.bi .int [(.idx (.var 3) (.var 5))]) (.cst (.int 6))) (.var 4))
  [.app 2 (.var 5) .dr]
  []],
  .retm 2]⟩
def f__law_papers : Fd := ⟨38, "_law_papers", ["script", "at", "stays", "base"], ["script", "at", "stays", "base", "many", "numbers", "drawn", "papers", "dropped", "spot", "more", "k"], [],
  [.asg 4 (.bi .len [(.var 2)]) .dr false,
  .asg 5 (.call 16 [(.call 15 [(.var 0), (.var 1)]), (.cst (.int 4)), (.cst (.int 60))]) .dr false,
  .asg 6 (.call 24 [(.call 15 [(.var 0), (.bin .add (.var 1) (.cst (.int 1)))]), (.var 4)]) .dr false,
  .asg 7 (.lst [(.var 3), (.var 6), (.lrng (.var 4)), (.lst []), (.bin .add (.var 3) (.lst [(.var 4)])), (.bin .add (.lst [(.neg (.cst (.int 1)))]) (.var 3)), (.rv (.var 3)), (.bin .add (.var 3) (.sl (.var 3) (some (.neg (.cst (.int 1)))) none))]) .dr true,
  .frz 7 (.asg 7 (.bin .add (.var 7) (.lst [(.bi .tuple [(.var 3)]), (.cst (.none)), (.cst (.str "0")), (.comp (.cmp .eq (.var 11) (.cst (.int 1))) 11 .seq [(.var 3)] [])])) .dr true),
  .asg 8 (.comp (.var 11) 11 .rng1 [(.var 4)] [(.cmp .notIn (.var 11) (.var 3))]) .dr false,
  .ite (.cmp .gt (.bi .len [(.var 3)]) (.cst (.int 0)))
  [.asg 9 (.bin .mod (.bi .int [(.idx (.var 5) (.cst (.int 0)))]) (.bi .len [(.var 3)])) .dr false,
  .app 7 (.bin .add (.sl (.var 3) none (some (.var 9))) (.sl (.var 3) (some (.bin .add (.var 9) (.cst (.int 1)))) none)) .dr,
  .app 7 (.bin .add (.bin .add (.sl (.var 3) none (some (.var 9))) (.lst [(.cmp .eq (.idx (.var 3) (.var 9)) (.cst (.int 1)))])) (.sl (.var 3) (some (.bin .add (.var 9) (.cst (.int 1)))) none)) .dr,
  .ite (.cmp .gt (.bi .len [(.var 8)]) (.cst (.int 0)))
  [.asg 10 (.idx (.var 8) (.bin .mod (.bi .int [(.idx (.var 5) (.cst (.int 1)))]) (.bi .len [(.var 8)]))) .dr false,
  .app 7 (.bi .sorted [(.bin .add (.var 3) (.lst [(.var 10)]))]) .dr,
  .app 7 (.bi .sorted [(.bin .add (.bin .add (.sl (.var 3) none (some (.var 9))) (.sl (.var 3) (some (.bin .add (.var 9) (.cst (.int 1)))) none)) (.lst [(.var 10)]))]) .dr]
  []]
  [],
  .retm 7]⟩
def f__law_subsets : Fd := ⟨39, "_law_subsets", ["many"], ["many", "found", "k", "members"], [],
  [.asg 1 (.lst [(.lst [])]) .dr false,
  .for1 (.one 2) .rng1 [(.var 0)]
  [.asg 1 (.bin .add (.var 1) (.comp (.bin .add (.var 3) (.lst [(.var 2)])) 3 .seq [(.var 1)] [])) .dr false],
  .ret (.var 1) .full]⟩
def f__law_bad_stays : Fd := ⟨40, "_law_bad_stays", ["stays", "way", "number"], ["stays", "way", "number", "line", "spot", "bad"], [],
  [.ite (.cmp .eq (.var 1) (.cst (.int 0)))
  [.ret (.tup [(.bi .tuple [(.var 0)]), (.tup [(.cst (.str "BadValue")), (.cst (.str "stays"))])]) .full]
  [],
  .ite (.cmp .eq (.var 1) (.cst (.int 1)))
  [.ret (.tup [(.bin .mul (.lst [(.cst (.none))]) (.cst (.int 61))), (.tup [(.cst (.str "TooMany")), (.cst (.int 60))])]) .full]
  [],
  .asg 3 (.sl (.var 0) none (some (.cst (.int 59)))) .dr false,
  .asg 4 (.bin .mod (.bi .int [(.var 2)]) (.bin .add (.bi .len [(.var 3)]) (.cst (.int 1)))) .dr false,
  .asg 5 (.idx (.lst [(.tup [(.cst (.int 3)), (.cst (.int 3))]), (.tup [(.cst (.int 4)), (.cst (.int 2))]), (.lst [(.cst (.int 0)), (.cst (.int 1))]), (.tup [(.cst (.int 0)), (.cst (.bool true))]), (.tup [(.neg (.cst (.int 1))), (.cst (.int 2))]), (.tup [(.cst (.int 0)), (.cst (.int 1000001))]), (.cst (.none)), (.tup [(.cst (.int 0)), (.cst (.int 1)), (.cst (.int 2))])]) (.bin .mod (.bi .int [(.var 1)]) (.cst (.int 8)))) .dr false,
  .ret (.tup [(.bin .add (.bin .add (.sl (.var 3) none (some (.var 4))) (.lst [(.var 5)])) (.sl (.var 3) (some (.var 4)) none)), (.tup [(.cst (.str "BadValue")), (.cst (.str "stays"))])]) .full]⟩
def f__law_said : Fd := ⟨41, "_law_said", ["way", "stays", "count"], ["way", "stays", "count", "e"], [],
  [.tryx [.ite (.cmp .eq (.var 0) (.cst (.int 0)))
  [.ret (.tup [(.cst (.str "answer")), (.call 13 [(.var 1), (.var 2)])]) .full]
  [],
  .ret (.tup [(.cst (.str "answer")), (.call 14 [(.var 1), (.var 2), (.cst (.none))])]) .full]
  (.hcons 1 (some 3)
  [.ret (.tup [(.cst (.str "BadValue")), (.xfl "what")]) .full]
  (.hcons 0 (some 3)
  [.ret (.tup [(.cst (.str "TooMany")), (.xfl "limit")]) .full]
  (.hnil)))]⟩
def f__law_spoilt : Fd := ⟨42, "_law_spoilt", ["script", "at", "stays", "count"], ["script", "at", "stays", "count", "numbers", "given", "due", "pair", "way"], [],
  [.asg 4 (.call 16 [(.call 15 [(.var 0), (.var 1)]), (.cst (.int 5)), (.cst (.int 60))]) .dr false,
  .asg 5 (.lst [(.var 2), (.var 3)]) .dr true,
  .asg 6 (.cst (.none)) .dr false,
  .ite (.cmp .eq (.bin .mod (.bi .int [(.idx (.var 4) (.cst (.int 0)))]) (.cst (.int 2))) (.cst (.int 0)))
  [.updt 5 (.cst (.int 1)) (.idx (.lst [(.neg (.cst (.int 1))), (.cst (.int 61)), (.cst (.bool true)), (.cst (.none)), (.cst (.str "3")), (.lst [(.cst (.int 3))])]) (.bin .mod (.bi .int [(.idx (.var 4) (.cst (.int 1)))]) (.cst (.int 6)))) .dr,
  .asg 6 (.tup [(.cst (.str "BadValue")), (.cst (.str "count"))]) .dr false]
  [],
  .ite (.cmp .eq (.bin .mod (.bi .int [(.idx (.var 4) (.cst (.int 2)))]) (.cst (.int 2))) (.cst (.int 0)))
  [.asg 7 (.call 27 [(.var 2), (.bin .mod (.bi .int [(.idx (.var 4) (.cst (.int 3)))]) (.cst (.int 11))), (.idx (.var 4) (.cst (.int 4)))]) .dr false,
  .updt 5 (.cst (.int 0)) (.idx (.var 7) (.cst (.int 0))) .dr,
  .asg 6 (.idx (.var 7) (.cst (.int 1))) .dr false]
  [],
  .ite (.cmp .is (.var 6) (.cst (.none)))
  [.ret (.cst (.bool true)) .full]
  [],
  .ret (.bi .all [(.comp (.cmp .eq (.call 28 [(.var 8), (.idx (.var 5) (.cst (.int 0))), (.idx (.var 5) (.cst (.int 1)))]) (.var 6)) 8 .rng1 [(.cst (.int 2))] [])]) .full]⟩
def f_law : Fd := ⟨43, "law", ["script"], ["script", "shape", "many", "stays", "top", "count", "due", "handed", "told", "members", "paper", "given", "said", "stay"], [],
  [.asg 1 (.call 16 [(.call 15 [(.var 0), (.cst (.int 0))]), (.cst (.int 4)), (.cst (.int 61))]) .dr false,
  .asg 2 (.bi .int [(.idx (.var 1) (.cst (.int 0)))]) .dr false,
  .ite (.cmp .eq (.bin .mod (.bi .int [(.idx (.var 1) (.cst (.int 1)))]) (.cst (.int 3))) (.cst (.int 0)))
  [.asg 2 (.bin .mod (.bi .int [(.idx (.var 1) (.cst (.int 0)))]) (.cst (.int 9))) .dr false]
  [.ite (.cmp .eq (.bin .mod (.bi .int [(.idx (.var 1) (.cst (.int 1)))]) (.cst (.int 8))) (.cst (.int 1)))
  [.asg 2 (.cst (.int 60)) .dr false]
  []],
  .asg 3 (.call 17 [(.var 0), (.cst (.int 1)), (.var 2)]) .dr false,
  .asg 4 (.bi .max1 [(.bin .add (.lst [(.cst (.int 0))]) (.comp (.call 20 [(.var 3), (.idx (.var 13) (.cst (.int 0)))]) 13 .seq [(.var 3)] []))]) .dr false,
  .asg 5 (.bin .mod (.bi .int [(.idx (.var 1) (.cst (.int 2)))]) (.bin .add (.var 4) (.cst (.int 1)))) .dr false,
  .ite (.cmp .eq (.bin .mod (.bi .int [(.idx (.var 1) (.cst (.int 3)))]) (.cst (.int 4))) (.cst (.int 0)))
  [.asg 5 (.idx (.lst [(.bi .int [(.idx (.var 1) (.cst (.int 2)))]), (.cst (.int 60))]) (.bin .mod (.bi .int [(.bin .fdiv (.idx (.var 1) (.cst (.int 3))) (.cst (.int 4)))]) (.cst (.int 2)))) .dr false]
  [],
  .asg 6 (.call 22 [(.var 3), (.var 5)]) .dr false,
  .asg 7 (.bi .list [(.var 3)]) .dr false,
  .asg 8 (.call 13 [(.var 7), (.var 5)]) .dr true,
  .ite (.orv (.cmp .ne (.var 7) (.var 3)) (.orv (.notv (.call 21 [(.var 8), (.var 2)])) (.orv (.cmp .ne (.var 8) (.var 6)) (.notv (.call 23 [(.var 3), (.var 5), (.var 8)])))))
  [.ret (.cst (.bool false)) .full]
  [],
  .app 8 (.cst (.int 3)) .dr,
  .ite (.cmp .ne (.call 13 [(.var 7), (.var 5)]) (.var 6))
  [.ret (.cst (.bool false)) .full]
  [],
  .ite (.cmp .lt (.var 2) (.cst (.int 9)))
  [.for1 (.one 9) .seq [(.call 26 [(.var 2)])]
  [.ite (.andv (.cmp .gt (.bi .len [(.var 9)]) (.bi .len [(.var 6)])) (.call 23 [(.var 3), (.var 5), (.var 9)]))
  [.ret (.cst (.bool false)) .full]
  []]]
  [],
  .for1 (.one 10) .seq [(.call 25 [(.var 0), (.cst (.int 4)), (.var 3), (.var 6)])]
  [.asg 11 (.var 10) .dr false,
  .ite (.isi (.var 10) .list)
  [.asg 11 (.bi .list [(.var 10)]) .dr false]
  [],
  .asg 12 (.call 14 [(.var 7), (.var 5), (.var 11)]) .dr false,
  .ite (.orv (.notv (.isi (.var 12) .bool)) (.cmp .ne (.var 12) (.call 23 [(.var 3), (.var 5), (.var 10)])))
  [.ret (.cst (.bool false)) .full]
  [],
  .ite (.orv (.cmp .ne (.var 11) (.var 10)) (.cmp .ne (.var 7) (.var 3)))
  [.ret (.cst (.bool false)) .full]
  []],
  .ret (.call 29 [(.var 0), (.cst (.int 6)), (.var 3), (.var 5)]) .full]⟩
def tab : Tab := ⟨[f_is_integer, f_in_range, f_is_ascending, f_need_range, f_need_list, f_is_time, f_is_stay, f_need_stay, f_need_stays, f_has_moment, f_need_shared, f_stay_order, f_accepted, f_most_bookings, f_is_accepted, f__law_cell, f__law_row, f__law_stays, f__law_whole, f__law_holds, f__law_load, f__law_members, f__law_booked, f__law_is_accepted, f__law_bits, f__law_papers, f__law_subsets, f__law_bad_stays, f__law_said, f__law_spoilt, f_law],
  [("LATEST", .int 1000000), ("MOST_STAYS", .int 60), ("MOST_COUNT", .int 60)],
  ["abs", "all", "bool", "int", "isinstance", "len", "list", "max", "min", "range", "sorted", "tuple"],
  [⟨2, "BadValue", "BadValue.__init__", "self", ["what"], ["what"]⟩, ⟨3, "TooMany", "TooMany.__init__", "self", ["limit"], ["limit"]⟩],
  [("TooMany", true), ("BadValue", true)], [[false, true], [true, false]], [], [], ["accepted", "stay_order"]⟩
def loose0 : List PySem.Str := ["BankError", "BadValue", "TooMany", "is_integer", "in_range", "is_ascending", "need_range", "need_list", "LATEST", "is_time", "MOST_STAYS", "is_stay", "need_stay", "need_stays", "has_moment", "MOST_COUNT", "need_shared", "stay_order", "accepted", "most_bookings", "is_accepted", "_law_cell", "_law_row", "_law_stays", "_law_whole", "_law_holds", "_law_load", "_law_members", "_law_booked", "_law_is_accepted"]
def loose1 : List PySem.Str := ["_law_bits", "_law_papers", "_law_subsets", "_law_bad_stays", "_law_said", "_law_spoilt"]
def loose : List PySem.Str := loose0 ++ loose1
@[simp] theorem glob_0 (k : Nat) (io : List Nat) (ρ : Rho) : P.ev (tab.gm k io) (.glob 0) ρ = .ok (.fz (.int 1000000)) := (rfl)
@[simp] theorem glob_1 (k : Nat) (io : List Nat) (ρ : Rho) : P.ev (tab.gm k io) (.glob 1) ρ = .ok (.fz (.int 60)) := (rfl)
@[simp] theorem glob_2 (k : Nat) (io : List Nat) (ρ : Rho) : P.ev (tab.gm k io) (.glob 2) ρ = .ok (.fz (.int 60)) := (rfl)
@[simp] theorem cok_0 : tab.cok 0 = true := (rfl)
@[simp] theorem isub_0_0 : tab.isub 0 0 = false := (rfl)
@[simp] theorem isub_0_1 : tab.isub 0 1 = true := (rfl)
theorem xf_0_0 : tab.xf 0 "what" = some 0 := by decide +kernel
@[simp] theorem cok_1 : tab.cok 1 = true := (rfl)
@[simp] theorem isub_1_0 : tab.isub 1 0 = true := (rfl)
@[simp] theorem isub_1_1 : tab.isub 1 1 = false := (rfl)
theorem xf_1_0 : tab.xf 1 "limit" = some 0 := by decide +kernel
theorem chk : tab.chk top = true := by kernel_rfl
abbrev R : PySem.W.OpenRow := PySem.W.OpenLaw.row PySem.Challenge.rw_parcelbank_k25_bookings_taken_in_turn
abbrev hk : PySem.W.Hook := hookT 5 tab.fa (tab.fnD top) (fun K => tab.ex K && tab.lmB K) tab.lms
def ob (s : PySem.W.SharedT) : AlY := obsT 5 tab.fa (tab.fnD top) (fun K => tab.ex K && tab.lmB K) tab.lms (HandSHeadRun.getT s)
theorem ob_eq (s : PySem.W.SharedT) : ob s = hk.obs s.abs := obsT_eq (HandSHeadRun.getT_eq s)
theorem run (w : World) : HandSHeadRun.RunEq R (PySem.W.view R.prog [43]) hk ob 6000 loose w := by
  intro os
  kernel_rfl
end LawX

set_option maxHeartbeats 400000
namespace LawX
open Gn PySem L2
def isInt : D → Bool
  | .int _ => true
  | _ => false
def inR (d : D) (lo hi : Int) : Bool := match d with
  | .int i => decide (lo ≤ i) && decide (i ≤ hi)
  | _ => false
@[simp] theorem isInt_int (i : Int) : isInt (.int i) = true := (rfl)
@[simp] theorem inR_int (i lo hi : Int) : inR (.int i) lo hi = (decide (lo ≤ i) && decide (i ≤ hi)) := (rfl)
theorem inR_is {d : D} {lo hi : Int} (h : inR d lo hi = true) : ∃ i, d = .int i ∧ lo ≤ i ∧ i ≤ hi := by
  cases d with
  | int i => simp at h; exact ⟨i, rfl, h⟩
  | _ => cases h
theorem c_is_integer (k : Nat) (d : D) : tab.call (k + 1) 0 [.fz d] = .ok (.fz (.bool (isInt d)), []) := by
  refine body_sat (G := tab.gm k []) (b := f_is_integer.body) ?_ rfl rfl rfl
  cases d <;> simp [f_is_integer, initR, isInt, isTy_dict]
theorem c_in_range (k : Nat) (d : D) (lo hi : Int) : tab.call (k + 2) 1 [.fz d, .fz (.int lo), .fz (.int hi)] = .ok (.fz (.bool (inR d lo hi)), []) := by
  refine body_sat (G := tab.gm (k + 1) []) (b := f_in_range.body) ?_ rfl rfl rfl
  cases d <;> simp [f_in_range, initR, c_is_integer, isInt, inR]
theorem c_need_range (k : Nat) (d w : D) (lo hi : Int) (h : inR d lo hi = true) : tab.call (k + 3) 3 [.fz d, .fz (.int lo), .fz (.int hi), .fz w] = .ok (.fz .none, []) := by
  refine body_sat (G := tab.gm (k + 2) []) (b := f_need_range.body) ?_ rfl rfl rfl
  simp [f_need_range, initR, c_in_range, h]
theorem x_need_range (k : Nat) (d w : D) (lo hi : Int) (h : inR d lo hi = false) : tab.call (k + 3) 3 [.fz d, .fz (.int lo), .fz (.int hi), .fz w] = .ex 0 [w] := by
  refine body_ex (G := tab.gm (k + 2) []) (b := f_need_range.body) ?_ rfl rfl rfl
  simp [f_need_range, initR, c_in_range, h]
theorem c_need_list (k : Nat) (ds : List D) (n : Int) (w : D) (h : (ds.length : Int) ≤ n) : tab.call (k + 1) 4 [.fz (.list ds), .fz (.int n), .fz w] = .ok (.fz .none, []) := by
  refine body_sat (G := tab.gm k []) (b := f_need_list.body) ?_ rfl rfl rfl
  have h : ¬ n < (ds.length : Int) := by omega
  simp [f_need_list, initR, h]
theorem x_need_list (k : Nat) (ds : List D) (n : Int) (w : D) (h : n < (ds.length : Int)) : tab.call (k + 1) 4 [.fz (.list ds), .fz (.int n), .fz w] = .ex 1 [.int n] := by
  refine body_ex (G := tab.gm k []) (b := f_need_list.body) ?_ rfl rfl rfl
  simp [f_need_list, initR, h]
theorem y_need_list (k : Nat) (d : D) (n : Int) (w : D) (h : isTy .list d = false) : tab.call (k + 1) 4 [.fz d, .fz (.int n), .fz w] = .ex 0 [w] := by
  refine body_ex (G := tab.gm k []) (b := f_need_list.body) ?_ rfl rfl rfl
  simp [f_need_list, initR, h]
theorem c_is_time (k : Nat) (d : D) : tab.call (k + 3) 5 [.fz d] = .ok (.fz (.bool (inR d 0 1000000)), []) := by
  refine body_sat (G := tab.gm (k + 2) []) (b := f_is_time.body) ?_ rfl rfl rfl
  simp [f_is_time, initR, c_in_range]
theorem row_lp1 (G : Gam) (c m : D) (l : Int) (l0 : 0 < l) (l1 : l < 1267650600228229401496703205376) (x6 : Option T) (js : List Nat) (r : Int) (x5 : Option T) (hz : js.length < 10000) :
    Sat (forL (lpF G (.one 5) [.app 4 (.bin .mod (.bi .int [(.var 3)]) (.var 2)) .dr, .asg 3 (.bin .fdiv (.var 3) (.var 2)) .dr false]) (js.map fun (j : Nat) => .int (j : Int)) [some (.fz c), some (.fz m), some (.fz (.int l)), some (.fz (.int r)), some (.lst []), x5, x6])
      (fun ρ => ∃ r' ms x, ρ = [some (.fz c), some (.fz m), some (.fz (.int l)), some (.fz (.int r')), some (.lst (fzs (ms.map .int))), x, x6] ∧ ms.length = js.length ∧ In l ms) (fun _ => False) (fun _ => False) (fun _ => False) (fun _ _ => False) := by
  refine sat_forL (fun d ρ => ∃ r' ms x, ρ = [some (.fz c), some (.fz m), some (.fz (.int l)), some (.fz (.int r')), some (.lst (fzs (ms.map .int))), x, x6] ∧ ms.length = d.length ∧ In l ms) js [] _ ⟨r, [], x5, rfl, rfl, fun _ h => by cases h⟩ (fun d j rest ρ e h => ?_) (fun ρ h => h)
  obtain ⟨r', ms, x, rfl, hl, hin⟩ := h
  have hz2 : ms.length < sizeLine := sz_lt (by have := congrArg List.length e; simp at this; omega)
  simp [bt_mod, bt_fdiv, l0, l1, appR_ok, hz2]
  exact ⟨r' / l, ms ++ [r' % l], ⟨rfl, by simp [fz_snoc]⟩, by simp [hl], hin.snoc (Int.emod_nonneg _ (by omega)) (Int.emod_lt_of_pos _ l0)⟩
theorem row_lp2 (G : Gam) (hc : G.calm = true) (c m : D) (l : Int) (l0 : 0 < l) (l1 : l < 1267650600228229401496703205376) (r : Int) (js : List Nat) (s : Int) (x5 : Option T) (hz : js.length < 10000) :
    Sat (forL (lpF G (.one 5) [.asg 6 (.bin .mod (.bi .int [(.bin .add (.bin .add (.bin .mul (.var 6) (.cst (.int 69621))) (.bin .mul (.var 5) (.cst (.int 48271)))) (.var 3))]) (.cst (.int 2147483629))) .dr false,
      .app 4 (.bin .mod (.bi .int [(.bin .fdiv (.var 6) (.cst (.int 7)))]) (.var 2)) .dr]) (js.map fun (j : Nat) => .int (j : Int)) [some (.fz c), some (.fz m), some (.fz (.int l)), some (.fz (.int r)), some (.lst []), x5, some (.fz (.int s))])
      (fun ρ => ∃ s' ms x, ρ = [some (.fz c), some (.fz m), some (.fz (.int l)), some (.fz (.int r)), some (.lst (fzs (ms.map .int))), x, some (.fz (.int s'))] ∧ ms.length = js.length ∧ In l ms) (fun _ => False) (fun _ => False) (fun _ => False) (fun _ _ => False) := by
  refine sat_forL (fun d ρ => ∃ s' ms x, ρ = [some (.fz c), some (.fz m), some (.fz (.int l)), some (.fz (.int r)), some (.lst (fzs (ms.map .int))), x, some (.fz (.int s'))] ∧ ms.length = d.length ∧ In l ms) js [] _ ⟨s, [], x5, rfl, rfl, fun _ h => by cases h⟩ (fun d j rest ρ e h => ?_) (fun ρ h => h)
  obtain ⟨s', ms, x, rfl, hl, hin⟩ := h
  have hz2 : ms.length < sizeLine := sz_lt (by have := congrArg List.length e; simp at this; omega)
  have m1 : mulOk s' 69621 = true := mulOk_r (by decide) (by decide)
  have m2 : mulOk (j : Int) 48271 = true := mulOk_r (by decide) (by decide)
  simp [bt_mod, bt_fdiv, bt_mul, l0, l1, appR_ok, hz2, m1, m2]
  exact ⟨_, ms ++ [(s' * 69621 + (j : Int) * 48271 + r) % 2147483629 / 7 % l], ⟨by simp [fz_snoc], rfl⟩, by simp [hl], hin.snoc (Int.emod_nonneg _ (by omega)) (Int.emod_lt_of_pos _ l0)⟩
theorem c__law_row (k : Nat) (c l : Int) (n : Nat) (hn : n < 10000) (l0 : 0 < l) (l1 : l < 1267650600228229401496703205376) : ∃ ms : List Int, tab.call (k + 1) 16 [.fz (.int c), .fz (.int n), .fz (.int l)] = .ok (.lst (fzs (ms.map .int)), []) ∧ ms.length = n ∧ In l ms := by
  have key : ∃ t, tab.call (k + 1) 16 [.fz (.int c), .fz (.int n), .fz (.int l)] = .ok (t, []) ∧ ∃ ms : List Int, t = .lst (fzs (ms.map .int)) ∧ ms.length = n ∧ In l ms := by
    refine body_some (G := tab.gm k []) (b := f__law_row.body) ?_ rfl rfl rfl
    have rg : rngD 0 (n : Int) = .ok ((List.range n).map fun (k : Nat) => .int (k : Int)) := by rw [rng_ok0 _ (by omega) (by omega)]; simp
    generalize ha : (if c < 0 then -c else c) = a
    by_cases h : (1000000000000000000 : Int) ≤ a
    · simp [f__law_row, initR, ha, bt_pow, h, rg]
      refine sat_thn (sat_mono (row_lp1 (tab.gm k []) _ _ l l0 l1 _ _ _ _ (by simpa using hn)) (fun ρ z => ?_) (fun _ z => z.elim) (fun _ z => z.elim) (fun _ z => z.elim) (fun _ _ z => z.elim))
      obtain ⟨r', ms, x, rfl, h1, h2⟩ := z
      simp
      exact ⟨ms, rfl, by simpa using h1, h2⟩
    · have m1 : mulOk a 48271 = true := mulOk_r (by decide) (by decide)
      simp [f__law_row, initR, ha, bt_pow, h, rg, bt_mul, bt_mod, m1]
      refine sat_thn (sat_mono (row_lp2 (tab.gm k []) rfl _ _ l l0 l1 _ _ _ _ (by simpa using hn)) (fun ρ z => ?_) (fun _ z => z.elim) (fun _ z => z.elim) (fun _ z => z.elim) (fun _ _ z => z.elim))
      obtain ⟨r', ms, x, rfl, h1, h2⟩ := z
      simp
      exact ⟨ms, rfl, by simpa using h1, h2⟩
  obtain ⟨t, e, ms, rfl, h1, h2⟩ := key
  exact ⟨ms, e, h1, h2⟩
theorem c__law_cell (k : Nat) (ns : List Int) (j : Nat) (hj : j < 100000) : ∃ c : Int, tab.call (k + 1) 15 [.fz (.list (ns.map .int)), .fz (.int j)] = .ok (.fz (.int c), []) := by
  have key : ∃ t, tab.call (k + 1) 15 [.fz (.list (ns.map .int)), .fz (.int j)] = .ok (t, []) ∧ ∃ c : Int, t = .fz (.int c) := by
    refine body_some (G := tab.gm k []) (b := f__law_cell.body) ?_ rfl rfl rfl
    by_cases h : j < ns.length
    · have h2 : (j : Int) < (ns.length : Int) := by omega
      have e : atI (ns.map PyData.int) (j : Int) = some (.int ns[j]) := by rw [at_map, at_nat ns (j : Int) (by omega) (by simpa using h)]; rfl
      simp [f__law_cell, initR, h2, h, e]
    · have h2 : ¬ (j : Int) < (ns.length : Int) := by omega
      by_cases h3 : 0 < ns.length
      · have h4 : (0 : Int) < (ns.length : Int) := by omega
        have e : atI (ns.map PyData.int) (0 : Int) = some (.int ns[0]) := by rw [at_map, at_nat ns 0 (by omega) (by simpa using h3)]; rfl
        have m1 : mulOk (ns[0] % 1000003) 97 = true := mulOk_r (by decide) (by decide)
        have m2 : mulOk 31 (j : Int) = true := mulOk_l (by decide) (by decide)
        simp [f__law_cell, initR, h2, h, h3, h4, e, bt_mul, bt_mod, m1, m2]
      · have h4 : ¬ (0 : Int) < (ns.length : Int) := by omega
        have m2 : mulOk 31 (j : Int) = true := mulOk_l (by decide) (by decide)
        simp [f__law_cell, initR, h2, h, h3, h4, bt_mul, m2]
  obtain ⟨t, e, c, rfl⟩ := key
  exact ⟨c, e⟩
abbrev Sty := Int × Int
abbrev st (p : Sty) : D := .tuple [.int p.1, .int p.2]
def isStay (d : D) : Bool := match d with
  | .tuple [a, b] => inR a 0 1000000 && (inR b 0 1000000 && (match a, b with
    | .int i, .int j => decide (i < j)
    | _, _ => false))
  | _ => false
def StOk (p : Sty) : Prop := 0 ≤ p.1 ∧ p.1 < p.2 ∧ p.2 ≤ 1000000
theorem c_is_stay (k : Nat) (d : D) : tab.call (k + 4) 6 [.fz d] = .ok (.fz (.bool (isStay d)), []) := by
  refine body_sat (G := tab.gm (k + 3) []) (b := f_is_stay.body) ?_ rfl rfl rfl
  cases d with
  | tuple ds =>
    match ds with
    | [] => simp [f_is_stay, initR, isStay]
    | [_] => simp [f_is_stay, initR, isStay]
    | a :: b :: c :: r =>
      have : ¬ ((r.length : Int) + 1 + 1 + 1 = 2) := by omega
      simp [f_is_stay, initR, isStay, this]
    | [a, b] =>
      cases ha : inR a 0 1000000 with
      | false => simp [f_is_stay, initR, isStay, c_is_time, ha]
      | true =>
        cases hb : inR b 0 1000000 with
        | false => simp [f_is_stay, initR, isStay, c_is_time, ha, hb]
        | true =>
          obtain ⟨i, rfl, _⟩ := inR_is ha
          obtain ⟨j, rfl, _⟩ := inR_is hb
          simp [f_is_stay, initR, isStay, c_is_time, ha, hb]
  | _ => simp [f_is_stay, initR, isStay, isTy_dict]
theorem isStay_ok {p : Sty} (h : StOk p) : isStay (st p) = true := by
  obtain ⟨h1, h2, h3⟩ := h
  simp [isStay]
  omega
theorem c_need_stay (k : Nat) (d w : D) (h : isStay d = true) : tab.call (k + 5) 7 [.fz d, .fz w] = .ok (.fz .none, []) := by
  refine body_sat (G := tab.gm (k + 4) []) (b := f_need_stay.body) ?_ rfl rfl rfl
  simp [f_need_stay, initR, c_is_stay, h]
theorem x_need_stay (k : Nat) (d w : D) (h : isStay d = false) : tab.call (k + 5) 7 [.fz d, .fz w] = .ex 0 [w] := by
  refine body_ex (G := tab.gm (k + 4) []) (b := f_need_stay.body) ?_ rfl rfl rfl
  simp [f_need_stay, initR, c_is_stay, h]
theorem c_need_stays (k : Nat) (ss : List Sty) (n : Int) (w : D) (hl : (ss.length : Int) ≤ n) (h : ∀ s ∈ ss, StOk s) : tab.call (k + 6) 8 [.fz (.list (ss.map st)), .fz (.int n), .fz w] = .ok (.fz .none, []) := by
  refine body_sat (G := tab.gm (k + 5) []) (b := f_need_stays.body) ?_ rfl rfl rfl
  simp [f_need_stays, initR, c_need_list, hl]
  refine sat_all (fun ρ => ∃ x, ρ = [some (.fz (.list (ss.map st))), some (.fz (.int n)), some (.fz w), x]) ⟨_, rfl⟩ ?_ ?_
  · rintro s hs ρ ⟨x, rfl⟩
    simp [c_need_stay, isStay_ok (h s hs)]
  · rintro ρ ⟨x, rfl⟩
    simp
theorem x_need_stays (k : Nat) (ds : List D) (n : Int) (w : D) (h : n < (ds.length : Int)) : tab.call (k + 6) 8 [.fz (.list ds), .fz (.int n), .fz w] = .ex 1 [.int n] := by
  refine body_ex (G := tab.gm (k + 5) []) (b := f_need_stays.body) ?_ rfl rfl rfl
  simp [f_need_stays, initR, x_need_list, h]
theorem y_need_stays (k : Nat) (d : D) (n : Int) (w : D) (h : isTy .list d = false) : tab.call (k + 6) 8 [.fz d, .fz (.int n), .fz w] = .ex 0 [w] := by
  refine body_ex (G := tab.gm (k + 5) []) (b := f_need_stays.body) ?_ rfl rfl rfl
  simp [f_need_stays, initR, y_need_list, h]
/-- a bad item behind good ones -/
theorem z_need_stays (k : Nat) (ss : List Sty) (d : D) (ds : List D) (n : Int) (w : D) (hl : ((ss.length + 1 + ds.length : Nat) : Int) ≤ n) (h : ∀ s ∈ ss, StOk s) (hd : isStay d = false) :
    tab.call (k + 6) 8 [.fz (.list (ss.map st ++ d :: ds)), .fz (.int n), .fz w] = .ex 0 [w] := by
  refine body_ex (G := tab.gm (k + 5) []) (b := f_need_stays.body) ?_ rfl rfl rfl
  have hl : (ss.length : Int) + ((ds.length : Int) + 1) ≤ n := by omega
  simp [f_need_stays, initR, c_need_list, hl]
  refine sat_thn (sat_forL_pre ss (d :: ds) (fun ρ => ∃ x, ρ = [some (.fz (.list (ss.map st ++ d :: ds))), some (.fz (.int n)), some (.fz w), x]) _ ⟨_, rfl⟩ ?_ ?_)
  · rintro s hs ρ ⟨x, rfl⟩
    simp [c_need_stay, isStay_ok (h s hs)]
  · rintro ρ ⟨x, rfl⟩
    simp [x_need_stay, hd]
def hasM (s : Sty) (m : Int) : Bool := decide (s.1 ≤ m) && decide (m < s.2)
theorem c_has_moment (k : Nat) (s : Sty) (m : Int) : tab.call (k + 1) 9 [.fz (st s), .fz (.int m)] = .ok (.fz (.bool (hasM s m)), []) := by
  refine body_sat (G := tab.gm k []) (b := f_has_moment.body) ?_ rfl rfl rfl
  simp [f_has_moment, initR, hasM]
def loadM (ss : List Sty) (m : Int) : Nat := (ss.filter fun s => hasM s m).length
theorem at_ints (ms : List Int) (i : Int) (h0 : 0 ≤ i) (h : i < (ms.length : Int)) (l : Int) (hin : In l ms) : ∃ v, atI (ms.map PyData.int) i = some (.int v) ∧ 0 ≤ v ∧ v < l := by
  obtain ⟨v, hv, e⟩ := at_some ms i h0 h
  exact ⟨v, by rw [at_map, e]; rfl, hin v hv⟩
theorem c__law_stays (k : Nat) (ns : List Int) (a n : Nat) (ha : a < 1000) (hn : n < 1000) : ∃ ss : List Sty, tab.call (k + 2) 17 [.fz (.list (ns.map .int)), .fz (.int a), .fz (.int n)] = .ok (.lst (fzs (ss.map st)), []) ∧ ss.length = n ∧ ∀ s ∈ ss, StOk s := by
  have key : ∃ t, tab.call (k + 2) 17 [.fz (.list (ns.map .int)), .fz (.int a), .fz (.int n)] = .ok (t, []) ∧ ∃ ss : List Sty, t = .lst (fzs (ss.map st)) ∧ ss.length = n ∧ ∀ s ∈ ss, StOk s := by
    refine body_some (G := tab.gm (k + 1) []) (b := f__law_stays.body) ?_ rfl rfl rfl
    obtain ⟨c1, e1⟩ := c__law_cell k ns a (by omega)
    obtain ⟨ms1, r1, l1, i1⟩ := c__law_row k c1 60 1 (by decide) (by decide) (by decide)
    obtain ⟨c2, e2⟩ := c__law_cell k ns (a + 1) (by omega)
    obtain ⟨c3, e3⟩ := c__law_cell k ns (a + 2) (by omega)
    match ms1, l1 with
    | [m], _ =>
      have wide : ∀ (w f b : Int), 0 < w → w ≤ 1000000 → 0 < f → f ≤ 1000000 → 0 ≤ b → b + w ≤ 1000000 → ∀ (c4 : Int),
          (∃ ss : List Sty, ∃ s7 s8 : List Int, tab.call (k + 1) 16 [.fz (.int c2), .fz (.int n), .fz (.int w)] = .ok (.lst (fzs (s7.map .int)), []) ∧ tab.call (k + 1) 16 [.fz (.int c3), .fz (.int n), .fz (.int f)] = .ok (.lst (fzs (s8.map .int)), []) ∧
            (∀ x3 x4 x5 x9, compL (cpF (tab.gm (k + 1) []) (.tup [(.bin .add (.var 6) (.idx (.var 7) (.var 9))), (.bi .min2 [(.cst (.int 1000000)), (.bin .add (.bin .add (.bin .add (.var 6) (.idx (.var 7) (.var 9))) (.cst (.int 1))) (.idx (.var 8) (.var 9)))])]) 9 []
              [some (.fz (.list (ns.map .int))), some (.fz (.int a)), some (.fz (.int n)), x3, x4, x5, some (.fz (.int b)), some (.fz (.list (s7.map .int))), some (.fz (.list (s8.map .int))), x9]) ((List.range n).map fun (k : Nat) => .int (k : Int)) = .ok (fzs (ss.map st))) ∧
            ss.length = n ∧ ∀ s ∈ ss, StOk s) := fun w f b w0 w1 f0 f1 b0 b1 c4 => by
        obtain ⟨s7, r7, l7, i7⟩ := c__law_row k c2 w n (by omega) w0 (by omega)
        obtain ⟨s8, r8, l8, i8⟩ := c__law_row k c3 f n (by omega) f0 (by omega)
        refine ⟨(List.range n).map fun j => (b + s7.getD j 0, if b + s7.getD j 0 + 1 + s8.getD j 0 < 1000000 then b + s7.getD j 0 + 1 + s8.getD j 0 else 1000000), s7, s8, r7, r8, fun x3 x4 x5 x9 => ?_, by simp, fun s hs => ?_⟩
        · rw [compL_all _ _ (fun (j : Nat) => st (b + s7.getD j 0, if b + s7.getD j 0 + 1 + s8.getD j 0 < 1000000 then b + s7.getD j 0 + 1 + s8.getD j 0 else 1000000)) _ fun j hj => ?_]
          · simp [Function.comp_def]
          · have hj : j < n := List.mem_range.mp hj
            have a7 : atI (s7.map PyData.int) (j : Int) = some (.int (s7.getD j 0)) := by
              rw [at_map, at_nat s7 (j : Int) (by omega) (by simp; omega)]
              simp [List.getD, List.getElem?_eq_getElem (show j < s7.length by omega)]
            have a8 : atI (s8.map PyData.int) (j : Int) = some (.int (s8.getD j 0)) := by
              rw [at_map, at_nat s8 (j : Int) (by omega) (by simp; omega)]
              simp [List.getD, List.getElem?_eq_getElem (show j < s8.length by omega)]
            generalize s7.getD j 0 = u at a7
            generalize s8.getD j 0 = v at a8
            simp [cpF_nil, a7, a8]
        · obtain ⟨j, hj, rfl⟩ := List.mem_map.mp hs
          have hj : j < n := List.mem_range.mp hj
          have b7 := i7 (s7.getD j 0) (by simp [List.getD, List.getElem?_eq_getElem (show j < s7.length by omega)])
          have b8 := i8 (s8.getD j 0) (by simp [List.getD, List.getElem?_eq_getElem (show j < s8.length by omega)])
          generalize s7.getD j 0 = u at b7
          generalize s8.getD j 0 = v at b8
          unfold StOk
          dsimp only
          split <;> omega
      have hm : m % 4 = 0 ∨ m % 4 = 1 ∨ m % 4 = 2 ∨ m % 4 = 3 := by omega
      have e1 : tab.call (k + 1) 15 [.fz (.list (ns.map .int)), .fz (.int a)] = .ok (.fz (.int c1), []) := e1
      have r1 : tab.call (k + 1) 16 [.fz (.int c1), .fz (.int 1), .fz (.int 60)] = .ok (.lst [.fz (.int m)], []) := r1
      have e2 : tab.call (k + 1) 15 [.fz (.list (ns.map .int)), .fz (.int ((a : Int) + 1))] = .ok (.fz (.int c2), []) := e2
      have e3 : tab.call (k + 1) 15 [.fz (.list (ns.map .int)), .fz (.int ((a : Int) + 2))] = .ok (.fz (.int c3), []) := e3
      have rg : rngD 0 (n : Int) = .ok ((List.range n).map fun (k : Nat) => .int (k : Int)) := by rw [rng_ok0 _ (by omega) (by omega)]; simp
      rcases hm with hm | hm | hm | hm
      · obtain ⟨ss, s7, s8, r7, r8, ec, h1, h2⟩ := wide 8 6 0 (by decide) (by decide) (by decide) (by decide) (by decide) (by decide) 0
        simp [f__law_stays, initR, e1, r1, bt_mod, hm, e2, e3, r7, r8, rg, ec, lstC_ok, sz_le (n := n) (by omega)]
        exact ⟨ss, rfl, h1, fun a b => h2 (a, b)⟩
      · obtain ⟨ss, s7, s8, r7, r8, ec, h1, h2⟩ := wide 40 25 0 (by decide) (by decide) (by decide) (by decide) (by decide) (by decide) 0
        simp [f__law_stays, initR, e1, r1, bt_mod, hm, e2, e3, r7, r8, rg, ec, lstC_ok, sz_le (n := n) (by omega)]
        exact ⟨ss, rfl, h1, fun a b => h2 (a, b)⟩
      · obtain ⟨ss, s7, s8, r7, r8, ec, h1, h2⟩ := wide 1000000 1000000 0 (by decide) (by decide) (by decide) (by decide) (by decide) (by decide) 0
        simp [f__law_stays, initR, e1, r1, bt_mod, hm, e2, e3, r7, r8, rg, ec, lstC_ok, sz_le (n := n) (by omega)]
        exact ⟨ss, rfl, h1, fun a b => h2 (a, b)⟩
      · obtain ⟨ss, s7, s8, r7, r8, ec, h1, h2⟩ := wide 8 6 999990 (by decide) (by decide) (by decide) (by decide) (by decide) (by decide) 0
        simp [f__law_stays, initR, e1, r1, bt_mod, hm, e2, e3, r7, r8, rg, ec, lstC_ok, sz_le (n := n) (by omega)]
        exact ⟨ss, rfl, h1, fun a b => h2 (a, b)⟩
  obtain ⟨t, e, ss, rfl, h1, h2⟩ := key
  exact ⟨ss, e, h1, h2⟩

/-! tables: rows of ints -/
abbrev rowD (r : List Int) : D := .list (r.map .int)
abbrev tabD (t : List (List Int)) : D := .list (t.map rowD)
abbrev pr2 (p : Int × Int) : D := .tuple [.int p.1, .int p.2]
def ascL (lo hi : Int) : Int → List D → Bool
  | _, [] => true
  | last, d :: ds => inR d lo hi && (match d with
    | .int i => decide (last < i) && ascL lo hi i ds
    | _ => false)
def ascB (lo hi : Int) (d : D) : Bool := match d with
  | .list ds => ascL lo hi (lo - 1) ds
  | _ => false
theorem ascL_ints (lo hi : Int) : ∀ (last : Int) (ns : List Int), (last :: ns).Pairwise (· < ·) → (∀ n ∈ ns, lo ≤ n ∧ n ≤ hi) → ascL lo hi last (ns.map .int) = true
  | _, [], _, _ => rfl
  | last, n :: ns, h, hr => by
    obtain ⟨h1, h2⟩ := List.pairwise_cons.mp h
    have := ascL_ints lo hi n ns h2 fun m hm => hr m (by simp [hm])
    have h3 := hr n (by simp)
    have h4 := h1 n (by simp)
    simp [ascL, this, h3, h4]
def Asc (lo hi : Int) (ns : List Int) : Prop := ns.Pairwise (· < ·) ∧ ∀ n ∈ ns, lo ≤ n ∧ n ≤ hi
theorem ascB_ints {lo hi : Int} {ns : List Int} (h : Asc lo hi ns) : ascB lo hi (rowD ns) = true := by
  refine ascL_ints lo hi (lo - 1) ns (List.pairwise_cons.mpr ⟨fun m hm => ?_, h.1⟩) h.2
  have := h.2 m hm
  omega
theorem c_is_ascending (k : Nat) (d : D) (lo hi : Int) : tab.call (k + 3) 2 [.fz d, .fz (.int lo), .fz (.int hi)] = .ok (.fz (.bool (ascB lo hi d)), []) := by
  refine call_sat f_is_ascending rfl rfl ?_ rfl rfl
  simp only [f_is_ascending, initR]
  cases d with
  | list ds =>
    simp
    refine sat_loopD (fun d ρ => ∃ last x, ρ = [some (.fz (.list ds)), some (.fz (.int lo)), some (.fz (.int hi)), some (.fz (.int last)), x] ∧ ∀ r, ascL lo hi (lo - 1) (d ++ r) = ascL lo hi last r) ⟨_, _, rfl, fun r => rfl⟩ ?_ ?_
    · rintro d x r ρ e ⟨last, y, rfl, h⟩
      have hx : ascB lo hi (.list ds) = ascL lo hi last (x :: r) := by rw [e]; exact h (x :: r)
      cases hr : inR x lo hi with
      | false => simp [c_in_range, hr, hx, ascL]
      | true =>
        obtain ⟨i, rfl, _⟩ := inR_is hr
        by_cases hl : i ≤ last
        · have hl2 : ¬ last < i := by omega
          simp [c_in_range, hr, hl, hx, ascL, hl2]
        · have hl2 : last < i := by omega
          simp [c_in_range, hr, hl]
          intro r'
          have := h (.int i :: r')
          simp [ascL, hl2, hr] at this
          simpa using this
    · rintro ρ ⟨last, y, rfl, h⟩
      have := h []
      simp [ascL] at this
      simp [ascB, this]
  | _ => simp [ascB, isTy_dict]
/-! pairs of ints sorted -/
def leP (p q : Int × Int) : Bool := decide (p.1 < q.1 ∨ (p.1 = q.1 ∧ p.2 ≤ q.2))
def sortP (l : List (Int × Int)) : List (Int × Int) := l.mergeSort leP
theorem leP_is (p q : Int × Int) : leP p q = true ↔ p.1 < q.1 ∨ (p.1 = q.1 ∧ p.2 ≤ q.2) := by unfold leP; exact decide_eq_true_iff
theorem sortP_perm (l : List (Int × Int)) : (sortP l).Perm l := List.mergeSort_perm _ _
theorem sortP_asc (l : List (Int × Int)) : (sortP l).Pairwise fun p q => leP p q = true := by
  refine List.pairwise_mergeSort (fun a b c h1 h2 => ?_) (fun a b => ?_) l
  · rw [leP_is] at *
    omega
  · rw [Bool.or_eq_true, leP_is, leP_is]
    omega
theorem sortD_pr2 (l : List (Int × Int)) : sortD (l.map pr2) = (sortP l).map pr2 := by
  unfold sortD sortP
  refine (PySem.W.sort_maps pr2 (r := leP) (s := PySem.W.dataLe false id) fun a _ b _ => ?_).symm
  have := congrFun (congrFun (PySem.W.dataLe_ii (β := Int × Int) (fun p => p.1) (fun p => p.2)) a) b
  exact this.symm
theorem sd_pr2 (l : List (Int × Int)) (h : l.length ≤ 1000) : sdOk (l.map pr2) = true := by
  unfold sdOk
  refine Bool.and_eq_true_iff.mpr ⟨Bool.and_eq_true_iff.mpr ⟨?_, Bool.or_eq_true_iff.mpr (.inl ?_)⟩, Bool.and_eq_true_iff.mpr ⟨?_, ?_⟩⟩
  · refine List.all_eq_true.mpr fun d hd => List.all_eq_true.mpr fun e he => ?_
    obtain ⟨p, _, rfl⟩ := List.mem_map.mp hd
    obtain ⟨q, _, rfl⟩ := List.mem_map.mp he
    simp [pr2, PySem.W.alike, PySem.W.alikeAll]
  · refine List.all_eq_true.mpr fun d hd => ?_
    obtain ⟨p, _, rfl⟩ := List.mem_map.mp hd
    rfl
  · rw [List.length_map]
    exact decide_eq_true (sz_le (by omega))
  · refine List.all_eq_true.mpr fun d hd => ?_
    obtain ⟨p, _, rfl⟩ := List.mem_map.mp hd
    simp [pr2]

abbrev intN (L : List Nat) : List D := L.map fun n : Nat => PyData.int (n : Int)
theorem cin_natS (o : Nat) (L : List Nat) : cmpD .isIn (.int (o : Int)) (.list (intN L)) = .ok (decide (o ∈ L)) := by
  have ni : ((o : Int) ∈ (L.map fun n : Nat => (n : Int))) ↔ o ∈ L := by
    rw [List.mem_map]
    exact ⟨fun ⟨a, ha, e⟩ => by rw [show o = a by omega]; exact ha, fun ha => ⟨o, ha, rfl⟩⟩
  have := cin_ints (o : Int) (L.map fun n : Nat => (n : Int))
  rw [List.map_map] at this
  rw [show intN L = L.map (PyData.int ∘ fun n : Nat => (n : Int)) from rfl, this]
  simp only [ni]
theorem cnin_natS (o : Nat) (L : List Nat) : cmpD .notIn (.int (o : Int)) (.list (intN L)) = .ok (!decide (o ∈ L)) := by
  show (do return !(← cmpD .isIn (.int (o : Int)) (.list (intN L))) : Gn.R Bool) = _
  rw [cin_natS]
  rfl
/-- a goal freed of the rest of the program -/
theorem sat_anyB {r : Res} {N C : Rho → Prop} {V : T → Prop} {E : Nat → List D → Prop} {B : Rho → Prop} (h : ∀ BB : Rho → Prop, Sat r N C BB V E) : Sat r N C B V E := h B
theorem mul_oneS (t : T) (n : Nat) (h : n ≤ 1000) : Gn.binT .mul (.lst [t]) (.int (n : Int)) = .ok (.lst (fzs (List.replicate n t.d))) := by
  have e : Gn.binT .mul (.lst [t]) (.int (n : Int)) = (if (0 : Int) ≤ (n : Int) ∧ (n : Int) < 2 ^ 40 ∧ [t].length * ((n : Int)).toNat ≤ sizeLine then (Gn.R.ok (.lst (fzs (List.replicate ((n : Int)).toNat (T.ds [t])).flatten)) : Gn.R T) else .no) := rfl
  have c : (0 : Int) ≤ (n : Int) ∧ (n : Int) < 2 ^ 40 ∧ [t].length * ((n : Int)).toNat ≤ sizeLine := by
    refine ⟨by omega, ?_, ?_⟩
    · have : (2 : Int) ^ 40 = 1099511627776 := by decide
      omega
    · apply sz_le
      simp
      omega
  rw [e, if_pos c]
  have e2 : T.ds [t] = [t.d] := rfl
  rw [e2]
  simp

/-! sorted(range(n), key=lambda x: (f(x), x)) -/
theorem dl_pair (kf : D → D) (x y : D) (p q : Int × Int) (hx : kf x = pr2 p) (hy : kf y = pr2 q) : PySem.W.dataLe false kf x y = leP p q := by
  have e : PySem.W.dataLe false kf x y = PySem.W.dataLe false id (kf x) (kf y) := rfl
  rw [e, hx, hy]
  exact congrFun (congrFun (PySem.W.dataLe_ii (β := Int × Int) (fun p => p.1) (fun p => p.2)) p) q
def ordF (f : Nat → Int) (n : Nat) : List Nat := (List.range n).mergeSort fun x y => leP (f x, (x : Int)) (f y, (y : Int))
theorem ordF_perm (f : Nat → Int) (n : Nat) : (ordF f n).Perm (List.range n) := List.mergeSort_perm _ _
theorem ordF_mem {f : Nat → Int} {n x : Nat} : x ∈ ordF f n ↔ x < n := by rw [(ordF_perm f n).mem_iff, List.mem_range]
theorem ordF_nd (f : Nat → Int) (n : Nat) : (ordF f n).Nodup := (ordF_perm f n).nodup_iff.mpr List.nodup_range
theorem ordF_len (f : Nat → Int) (n : Nat) : (ordF f n).length = n := by rw [(ordF_perm f n).length_eq, List.length_range]
theorem ordF_asc (f : Nat → Int) (n : Nat) : (ordF f n).Pairwise fun x y => leP (f x, (x : Int)) (f y, (y : Int)) = true := by
  refine List.pairwise_mergeSort (fun a b c h1 h2 => ?_) (fun a b => ?_) _
  · rw [leP_is] at *
    omega
  · rw [Bool.or_eq_true, leP_is, leP_is]
    omega
theorem ordF_pairs (f : Nat → Int) (n : Nat) : sortP ((List.range n).map fun x => (f x, (x : Int))) = (ordF f n).map fun x => (f x, (x : Int)) := by
  unfold sortP ordF
  exact (PySem.W.sort_maps (fun x : Nat => (f x, (x : Int))) (r := fun x y => leP (f x, (x : Int)) (f y, (y : Int))) (s := leP) fun a _ b _ => rfl).symm
theorem srtr_ord (f : Nat → Int) (kf : D → Option D) (n : Nat) (hn : n ≤ 1000) (hk : ∀ x, x < n → kf (.int (x : Int)) = some (.tuple [.int (f x), .int (x : Int)])) : srtrD kf (.int (n : Int)) = .ok (.lst (fzs (intN (ordF f n)))) := by
  rw [srtrD_eq kf n (by omega)]
  have ky : ∀ x, x < n → kyD kf (.int (x : Int)) = pr2 (f x, (x : Int)) := fun x hx => by
    unfold kyD
    rw [hk x hx]
    rfl
  have em : ((List.range n).map fun (k : Nat) => PyData.int (k : Int)).map (kyD kf) = ((List.range n).map fun x => (f x, (x : Int))).map pr2 := by
    rw [List.map_map, List.map_map]
    exact List.map_congr_left fun x hx => ky x (List.mem_range.mp hx)
  rw [srtKD_eq kf _ (fun d hd => ?_) (by rw [em]; exact sd_pr2 _ (by simpa using hn))]
  · have : ((List.range n).map fun (k : Nat) => PyData.int (k : Int)).mergeSort (PySem.W.dataLe false (kyD kf)) = intN (ordF f n) := by
      unfold ordF
      refine (PySem.W.sort_maps (fun x : Nat => PyData.int (x : Int)) (r := fun x y => leP (f x, (x : Int)) (f y, (y : Int))) (s := PySem.W.dataLe false (kyD kf)) fun a ha b hb => ?_).symm
      first | exact dl_pair _ _ _ _ _ (ky a (List.mem_range.mp ha)) (ky b (List.mem_range.mp hb)) | exact (dl_pair _ _ _ _ _ (ky a (List.mem_range.mp ha)) (ky b (List.mem_range.mp hb))).symm
    rw [this]
  · obtain ⟨x, hx, rfl⟩ := List.mem_map.mp hd
    have hx := List.mem_range.mp hx
    rw [hk x hx, ky x hx]
    exact ⟨rfl, rfl⟩

/-! the greatest of numbers from 0 on -/
def mxN (r : List Nat) : Nat := r.foldl (fun a b => if b > a then b else a) 0
theorem mx_cast : ∀ (r : List Nat) (a : Nat), (r.map fun n : Nat => (n : Int)).foldl (fun a b => if b > a then b else a) (a : Int) = ((r.foldl (fun a b => if b > a then b else a) a : Nat) : Int)
  | [], a => rfl
  | b :: r, a => by
    rw [List.map_cons, List.foldl_cons, List.foldl_cons]
    have e : (if (b : Int) > (a : Int) then (b : Int) else (a : Int)) = ((if b > a then b else a : Nat) : Int) := by
      by_cases h : b > a
      · rw [if_pos h, if_pos (by omega)]
      · rw [if_neg h, if_neg (by omega)]
    rw [e]
    exact mx_cast r _
theorem bi_mx (r : List Nat) : biD true .max1 [.list (.int 0 :: intN r)] = .ok (.fz (.int (mxN r : Nat))) := by
  show (do return .fz (.int (← Gn.R.of (maxL (← Gn.R.of (intsOf (.int 0 :: intN r)))))) : Gn.R T) = _
  rw [show (PyData.int 0 :: intN r) = ((0 : Int) :: (r.map fun n : Nat => (n : Int))).map PyData.int by simp [Function.comp_def], intsOf_map]
  show Gn.R.ok (T.fz (.int ((r.map fun n : Nat => (n : Int)).foldl (fun a b => if b > a then b else a) 0))) = _
  rw [show (0 : Int) = ((0 : Nat) : Int) from rfl, mx_cast]
  rfl
theorem mx_fold : ∀ (r : List Nat) (a : Nat), a ≤ r.foldl (fun a b => if b > a then b else a) a ∧ (∀ x ∈ r, x ≤ r.foldl (fun a b => if b > a then b else a) a) ∧ (r.foldl (fun a b => if b > a then b else a) a = a ∨ r.foldl (fun a b => if b > a then b else a) a ∈ r)
  | [], a => ⟨Nat.le_refl _, (fun x hx => by cases hx), .inl rfl⟩
  | b :: r, a => by
    obtain ⟨h1, h2, h3⟩ := mx_fold r (if b > a then b else a)
    have e : a ≤ (if b > a then b else a) ∧ b ≤ (if b > a then b else a) ∧ ((if b > a then b else a) = a ∨ (if b > a then b else a) = b) := by split <;> omega
    refine ⟨Nat.le_trans e.1 h1, fun x hx => ?_, ?_⟩
    · rcases List.mem_cons.mp hx with z | z
      · rw [z]; exact Nat.le_trans e.2.1 h1
      · exact h2 x z
    · show (r.foldl (fun a b => if b > a then b else a) (if b > a then b else a)) = a ∨ _ ∈ b :: r
      rcases h3 with z | z
      · rcases e.2.2 with w | w
        · exact .inl (z.trans w)
        · exact .inr (by rw [List.foldl_cons, z, w]; exact List.mem_cons_self)
      · exact .inr (List.mem_cons_of_mem _ z)
theorem mx_ge {r : List Nat} {x : Nat} (h : x ∈ r) : x ≤ mxN r := (mx_fold r 0).2.1 x h
theorem mx_in (r : List Nat) : mxN r = 0 ∨ mxN r ∈ r := (mx_fold r 0).2.2

theorem c__law_holds (k : Nat) (s : Sty) (m : Int) : tab.call (k + 1) 19 [.fz (st s), .fz (.int m)] = .ok (.fz (.bool (hasM s m)), []) := by
  refine body_sat (G := tab.gm k []) (b := f__law_holds.body) ?_ rfl rfl rfl
  simp [f__law_holds, initR, hasM]
theorem c__law_load (k : Nat) (ss : List Sty) (m : Int) (hz : ss.length < 10000) : tab.call (k + 2) 20 [.fz (.list (ss.map st)), .fz (.int m)] = .ok (.fz (.int (loadM ss m)), []) := by
  refine body_sat (G := tab.gm (k + 1) []) (b := f__law_load.body) ?_ rfl rfl rfl
  have e : compL (cpF (tab.gm (k + 1) []) (.var 2) 2 [.call 19 [.var 2, .var 1]] [some (.fz (.list (ss.map st))), some (.fz (.int m)), none]) (ss.map st) = .ok (fzs ((ss.filter fun s => hasM s m).map st)) := by
    rw [compL_filter _ st st (fun s => hasM s m) ss fun s hs => by simp [cpF_one, c__law_holds]]
  simp [f__law_load, initR, e, lstC_ok, sz_le (n := ss.length) (by omega), loadM]
/-! the law's peak -/

structure BadL (d f : D) : Prop where
  ex : ∃ c fs, (∀ k, tab.call (k + 6) 8 [.fz d, .fz (.int 60), .fz (.str "stays")] = .ex c fs) ∧ ((c = 0 ∧ ∃ w, fs = [.str w] ∧ f = .tuple [.str "BadValue", .str w]) ∨ (c = 1 ∧ ∃ n, fs = [.int n] ∧ f = .tuple [.str "TooMany", .int n]))
theorem c__law_bad_stays (k : Nat) (ss : List Sty) (w n : Int) (hw : 0 ≤ w) (hz : ss.length ≤ 60) (h : ∀ s ∈ ss, StOk s) : ∃ t, tab.call (k + 1) 27 [.fz (.list (ss.map st)), .fz (.int w), .fz (.int n)] = .ok (t, []) ∧ ∃ d f : D, t.d = .tuple [d, f] ∧ BadL d f := by
  have key : ∃ t, tab.call (k + 1) 27 [.fz (.list (ss.map st)), .fz (.int w), .fz (.int n)] = .ok (t, []) ∧ ∃ d f : D, t.d = .tuple [d, f] ∧ BadL d f := by
    refine body_some (G := tab.gm k []) (b := f__law_bad_stays.body) ?_ rfl rfl rfl
    by_cases w0 : w = 0
    · simp [f__law_bad_stays, initR, w0]
      exact ⟨_, _, ⟨rfl, rfl⟩, ⟨_, _, fun k => y_need_stays k _ 60 _ rfl, .inl ⟨rfl, _, rfl, rfl⟩⟩⟩
    · by_cases w1 : w = 1
      · have br := bt_rep [PyData.none] 61 (by decide) (by decide) (by decide)
        have br : binT .mul (.lst [.fz .none]) (.int 61) = .ok (.lst (fzs (List.replicate 61 PyData.none))) := br
        generalize hR : List.replicate 61 PyData.none = L at br
        have hl : L.length = 61 := by rw [← hR]; simp
        simp [f__law_bad_stays, initR, w1, br]
        exact ⟨_, _, ⟨rfl, rfl⟩, ⟨_, _, fun k => x_need_stays k _ 60 _ (by rw [hl]; decide), .inr ⟨rfl, _, rfl, rfl⟩⟩⟩
      · have hlen : (ss.take 59).length ≤ 59 := by simp; omega
        have ht : ∀ s ∈ ss.take 59, StOk s := fun s hs => h s (List.mem_of_mem_take hs)
        have e : cutL (ss.map st) none (some 59) = (ss.take 59).map st := by rw [cut_to _ _ (by decide), List.map_take]; rfl
        generalize ss.take 59 = l at hlen ht e
        have m0 : 0 ≤ n % ((l.length : Int) + 1) := Int.emod_nonneg _ (by omega)
        have m1 : n % ((l.length : Int) + 1) < (l.length : Int) + 1 := Int.emod_lt_of_pos _ (by omega)
        have md : binT .mod (.fz (.int n)) (.int ((l.length : Int) + 1)) = .ok (.fz (.int (n % ((l.length : Int) + 1)))) := bt_mod _ _ (by omega)
        generalize n % ((l.length : Int) + 1) = sp at m0 m1 md
        have c1 : cutL (l.map st) none (some sp) = (l.take sp.toNat).map st := by rw [cut_to _ _ m0, List.map_take]
        have c2 : cutL (l.map st) (some sp) none = (l.drop sp.toNat).map st := by rw [cut_from _ _ m0, List.map_drop]
        have l1 : (l.take sp.toNat).length + 1 + (l.drop sp.toNat).length ≤ 60 := by simp; omega
        have t1 : ∀ s ∈ l.take sp.toNat, StOk s := fun s hs => ht s (List.mem_of_mem_take hs)
        generalize l.take sp.toNat = A at c1 l1 t1
        generalize l.drop sp.toNat = B at c2 l1
        have w8 : w % 8 = 0 ∨ w % 8 = 1 ∨ w % 8 = 2 ∨ w % 8 = 3 ∨ w % 8 = 4 ∨ w % 8 = 5 ∨ w % 8 = 6 ∨ w % 8 = 7 := by omega
        have bad : ∀ d, isStay d = false → BadL (.list (A.map st ++ d :: B.map st)) (.tuple [.str "BadValue", .str "stays"]) := fun d hd =>
          ⟨_, _, fun k => z_need_stays k A d (B.map st) 60 _ (by simp; omega) t1 hd, .inl ⟨rfl, _, rfl, rfl⟩⟩
        have z1 : A.length ≤ 9999999 := by omega
        have z2 : A.length + 1 + B.length ≤ 10000000 := by omega
        rcases w8 with q | q | q | q | q | q | q | q <;> (simp [f__law_bad_stays, initR, w0, w1, e, md, bt_mod, q, c1, c2, z1, z2]; exact ⟨_, _, ⟨rfl, rfl⟩, bad _ rfl⟩)
  exact key

/-! accepted stays, plain: the walk by starts that drops the stay with the latest end keeps a longest list; a list of moments meets it -/
abbrev hasI (S : Nat → Sty) (t : Int) (m : Nat) : Bool := hasM (S m) t
def ldI (S : Nat → Sty) (ms : List Nat) (t : Int) : Nat := ms.countP (hasI S t)
theorem hasI_iff {S : Nat → Sty} {t : Int} {m : Nat} : hasI S t m = true ↔ (S m).1 ≤ t ∧ t < (S m).2 := by simp [hasI, hasM]
/-- a list of moments that meets the members ms of d, as far as h -/
structure Dual (S : Nat → Sty) (c : Nat) (d ms : List Nat) (h : Int) (M : List Int) : Prop where
  nd : M.Nodup
  st : ∀ t ∈ M, ∃ m ∈ d, (S m).1 = t
  rej : ∀ r ∈ d, r ∉ ms → (S r).2 ≤ h → ∃ t ∈ M, hasI S t r = true
  full : ∀ t ∈ M, ldI S ms t = c
  ends : ∀ t ∈ M, ∀ m ∈ ms, hasI S t m = true → (S m).2 ≤ h
  once : ∀ m ∈ ms, ∀ t ∈ M, ∀ t' ∈ M, hasI S t m = true → hasI S t' m = true → t = t'
structure Acc (S : Nat → Sty) (c : Nat) (d ms : List Nat) : Prop where
  nd : ms.Nodup
  sub : ∀ m ∈ ms, m ∈ d
  cap : ∀ t, ldI S ms t ≤ c
  dual : ∀ h, ∃ M, Dual S c d ms h M
theorem acc_nil (S : Nat → Sty) (c : Nat) : Acc S c [] [] := ⟨List.nodup_nil, (fun _ h => by cases h), fun t => by simp [ldI], fun h => ⟨[], List.nodup_nil, (fun _ h => by cases h), (fun _ h => by cases h), (fun _ h => by cases h), (fun _ h => by cases h), (fun _ h => by cases h)⟩⟩
theorem ldI_snoc (S : Nat → Sty) (ms : List Nat) (x : Nat) (t : Int) : ldI S (ms ++ [x]) t = ldI S ms t + if hasI S t x = true then 1 else 0 := by
  simp only [ldI, List.countP_append, List.countP_cons, List.countP_nil, Nat.zero_add]
/-- who holds a later moment with a stay that starts last holds its start -/
theorem later {S : Nat → Sty} {ms : List Nat} {t t' : Int} (hs : ∀ m ∈ ms, (S m).1 ≤ t) (ht : t ≤ t') {m : Nat} (hm : m ∈ ms) (h : hasI S t' m = true) : hasI S t m = true := by
  have := hasI_iff.mp h
  exact hasI_iff.mpr ⟨hs m hm, by omega⟩
theorem acc_keep {S : Nat → Sty} {c : Nat} {d ms : List Nat} {x : Nat} (a : Acc S c d ms) (xd : x ∉ d) (hs : ∀ m ∈ d, (S m).1 ≤ (S x).1) (hl : ldI S (ms ++ [x]) (S x).1 ≤ c) (hx : (S x).1 < (S x).2) : Acc S c (d ++ [x]) (ms ++ [x]) := by
  have xm : x ∉ ms := fun h => xd (a.sub x h)
  have hs1 : ∀ m ∈ ms ++ [x], (S m).1 ≤ (S x).1 := fun m hm => by
    rcases List.mem_append.mp hm with h | h
    · exact hs m (a.sub m h)
    · rw [List.mem_singleton.mp h]; exact Int.le_refl _
  have own : hasI S (S x).1 x = true := hasI_iff.mpr ⟨Int.le_refl _, hx⟩
  refine ⟨?_, fun m hm => ?_, fun t => ?_, fun h => ?_⟩
  · refine List.nodup_append.mpr ⟨a.nd, by simp, fun m hm y hy e => ?_⟩
    rw [List.mem_singleton.mp hy] at e
    exact xm (e ▸ hm)
  · rcases List.mem_append.mp hm with h | h
    · exact List.mem_append_left _ (a.sub m h)
    · exact List.mem_append_right _ h
  · by_cases z : hasI S t x = true
    · have := hasI_iff.mp z
      refine Nat.le_trans ?_ hl
      exact List.countP_mono_left fun m hm h => later hs1 this.1 hm h
    · rw [ldI_snoc, if_neg z]
      exact a.cap t
  · obtain ⟨M, q⟩ := a.dual h
    have nx : ∀ t ∈ M, ¬ hasI S t x = true := fun t ht z => by
      obtain ⟨m, hm, e⟩ := q.st t ht
      have h1 := hs m hm
      have h2 := hasI_iff.mp z
      have e2 : t = (S x).1 := by omega
      have f := q.full t ht
      rw [e2] at f
      rw [ldI_snoc, if_pos own] at hl
      omega
    refine ⟨M, q.nd, fun t ht => ?_, fun r hr hn hh => ?_, fun t ht => ?_, fun t ht m hm hh => ?_, fun m hm t ht t' ht' h1 h2 => ?_⟩
    · obtain ⟨m, hm, e⟩ := q.st t ht
      exact ⟨m, List.mem_append_left _ hm, e⟩
    · have n1 : r ∉ ms := fun z => hn (List.mem_append_left _ z)
      have n2 : r ≠ x := fun z => hn (List.mem_append_right _ (by rw [z]; simp))
      refine q.rej r ?_ n1 hh
      rcases List.mem_append.mp hr with z | z
      · exact z
      · exact absurd (List.mem_singleton.mp z) n2
    · rw [ldI_snoc, if_neg (nx t ht)]
      exact q.full t ht
    · rcases List.mem_append.mp hm with z | z
      · exact q.ends t ht m z hh
      · rw [List.mem_singleton.mp z] at hh
        exact absurd hh (nx t ht)
    · rcases List.mem_append.mp hm with z | z
      · exact q.once m z t ht t' ht' h1 h2
      · rw [List.mem_singleton.mp z] at h1
        exact absurd h1 (nx t ht)
theorem ldI_erase {S : Nat → Sty} {ms : List Nat} {r : Nat} {t : Int} (h : r ∈ ms) : ldI S (ms.erase r) t + (if hasI S t r = true then 1 else 0) = ldI S ms t := by
  have p := (List.perm_cons_erase h).countP_eq (hasI S t)
  rw [List.countP_cons] at p
  exact p.symm
theorem acc_drop {S : Nat → Sty} {c : Nat} {d ms : List Nat} {x r : Nat} (a : Acc S c d ms) (xd : x ∉ d) (hs : ∀ m ∈ d, (S m).1 ≤ (S x).1) (hl : c < ldI S (ms ++ [x]) (S x).1) (hx : (S x).1 < (S x).2) (hr : r ∈ ms ++ [x]) (rt : hasI S (S x).1 r = true) (rm : ∀ m ∈ ms ++ [x], hasI S (S x).1 m = true → (S m).2 ≤ (S r).2) : Acc S c (d ++ [x]) ((ms ++ [x]).erase r) := by
  have xm : x ∉ ms := fun h => xd (a.sub x h)
  have hs1 : ∀ m ∈ ms ++ [x], (S m).1 ≤ (S x).1 := fun m hm => by
    rcases List.mem_append.mp hm with h | h
    · exact hs m (a.sub m h)
    · rw [List.mem_singleton.mp h]; exact Int.le_refl _
  have own : hasI S (S x).1 x = true := hasI_iff.mpr ⟨Int.le_refl _, hx⟩
  have nd1 : (ms ++ [x]).Nodup := List.nodup_append.mpr ⟨a.nd, by simp, fun m hm y hy e => by
    rw [List.mem_singleton.mp hy] at e
    exact xm (e ▸ hm)⟩
  have l1 : ldI S (ms ++ [x]) (S x).1 = c + 1 := by
    have := a.cap (S x).1
    rw [ldI_snoc, if_pos own] at hl ⊢
    omega
  have er : ∀ t, ldI S ((ms ++ [x]).erase r) t + (if hasI S t r = true then 1 else 0) = ldI S (ms ++ [x]) t := fun t => ldI_erase hr
  have me : ∀ {m}, m ∈ (ms ++ [x]).erase r ↔ m ≠ r ∧ m ∈ ms ++ [x] := fun {m} => nd1.mem_erase_iff
  have mor : ∀ {m}, m ∈ ms ++ [x] → m ∈ ms ∨ m = x := fun h => (List.mem_append.mp h).imp id List.mem_singleton.mp
  have tle : ∀ {M : List Int} {h : Int}, Dual S c d ms h M → ∀ t ∈ M, t ≤ (S x).1 := fun q t ht => by
    obtain ⟨m, hm, e⟩ := q.st t ht
    have := hs m hm
    omega
  have rr := hasI_iff.mp rt
  refine ⟨nd1.erase r, fun m hm => ?_, fun t => ?_, fun h => ?_⟩
  · rcases mor (me.mp hm).2 with z | z
    · exact List.mem_append_left _ (a.sub m z)
    · rw [z]; simp
  · have e := er t
    by_cases z : hasI S t x = true
    · have zz := hasI_iff.mp z
      have le : ldI S (ms ++ [x]) t ≤ ldI S (ms ++ [x]) (S x).1 := List.countP_mono_left fun m hm h => later hs1 zz.1 hm h
      by_cases k : hasI S t r = true
      · rw [if_pos k] at e
        omega
      · have kk : (S r).2 ≤ t := by
          refine Int.not_lt.mp fun lt => k (hasI_iff.mpr ⟨?_, lt⟩)
          have := hs1 r hr
          omega
        have := rm x (by simp) own
        omega
    · rw [ldI_snoc, if_neg z] at e
      have := a.cap t
      omega
  · by_cases hh : h < (S r).2
    · obtain ⟨M, q⟩ := a.dual h
      have atx : ∀ t ∈ M, hasI S t x = true → t = (S x).1 ∧ r = x := fun t ht z => by
        have h1 := tle q t ht
        have h2 := (hasI_iff.mp z).1
        have e : t = (S x).1 := by omega
        refine ⟨e, (mor hr).resolve_left fun z => ?_⟩
        have := q.ends t ht r z (by rw [e]; exact rt)
        omega
      have nr : ∀ t ∈ M, r ∈ ms → ¬ hasI S t r = true := fun t ht z k => by
        have := q.ends t ht r z k
        omega
      refine ⟨M, q.nd, fun t ht => ?_, fun y hy hn he => ?_, fun t ht => ?_, fun t ht m hm k => ?_, fun m hm t ht t' ht' k1 k2 => ?_⟩
      · obtain ⟨m, hm, e⟩ := q.st t ht
        exact ⟨m, List.mem_append_left _ hm, e⟩
      · have yr : y ≠ r := fun z => by rw [z] at he; omega
        have n1 : y ∉ ms ++ [x] := fun z => hn (me.mpr ⟨yr, z⟩)
        refine q.rej y ?_ (fun z => n1 (List.mem_append_left _ z)) he
        rcases (List.mem_append.mp hy).imp id List.mem_singleton.mp with z | z
        · exact z
        · exact absurd (by rw [z]; simp) n1
      · have e := er t
        have f := q.full t ht
        rw [ldI_snoc] at e
        by_cases z : hasI S t x = true
        · obtain ⟨_, z2⟩ := atx t ht z
          rw [if_pos z, z2, if_pos z] at e
          rw [z2]
          omega
        · rw [if_neg z] at e
          rcases mor hr with k | k
          · rw [if_neg (nr t ht k)] at e
            omega
          · rw [k, if_neg z] at e
            rw [k]
            omega
      · obtain ⟨m1, m2⟩ := me.mp hm
        rcases mor m2 with z | z
        · exact q.ends t ht m z k
        · rw [z] at k
          exact absurd ((atx t ht k).2.symm ▸ z) m1
      · obtain ⟨m1, m2⟩ := me.mp hm
        rcases mor m2 with z | z
        · exact q.once m z t ht t' ht' k1 k2
        · rw [z] at k1 k2
          rw [(atx t ht k1).1, (atx t' ht' k2).1]
    · obtain ⟨M, q⟩ := a.dual (S x).1
      have mi : ∀ {t}, t ∈ (if (S x).1 ∈ M then M else (S x).1 :: M) ↔ t = (S x).1 ∨ t ∈ M := fun {t} => by
        by_cases z : (S x).1 ∈ M
        · rw [if_pos z]
          exact ⟨.inr, fun k => k.elim (fun e => by rw [e]; exact z) id⟩
        · rw [if_neg z]
          exact List.mem_cons
      have ndM : (if (S x).1 ∈ M then M else (S x).1 :: M).Nodup := by
        by_cases z : (S x).1 ∈ M
        · rw [if_pos z]; exact q.nd
        · rw [if_neg z]; exact List.nodup_cons.mpr ⟨z, q.nd⟩
      have nx : ∀ t ∈ M, hasI S t x = true → t = (S x).1 := fun t ht z => by
        have h1 := tle q t ht
        have h2 := (hasI_iff.mp z).1
        omega
      have low : ∀ t ∈ M, ∀ m ∈ ms, hasI S t m = true → (S m).2 ≤ (S x).1 := q.ends
      refine ⟨_, ndM, fun t ht => ?_, fun y hy hn he => ?_, fun t ht => ?_, fun t ht m hm k => ?_, fun m hm t ht t' ht' k1 k2 => ?_⟩
      · rcases mi.mp ht with e | ht
        · exact ⟨x, by simp, e.symm⟩
        · obtain ⟨m, hm, e⟩ := q.st t ht
          exact ⟨m, List.mem_append_left _ hm, e⟩
      · by_cases yr : y = r
        · exact ⟨_, mi.mpr (.inl rfl), by rw [yr]; exact rt⟩
        · have n1 : y ∉ ms ++ [x] := fun z => hn (me.mpr ⟨yr, z⟩)
          have yd : y ∈ d := by
            rcases (List.mem_append.mp hy).imp id List.mem_singleton.mp with z | z
            · exact z
            · exact absurd (by rw [z]; simp) n1
          by_cases ey : (S y).2 ≤ (S x).1
          · obtain ⟨t, ht, k⟩ := q.rej y yd (fun z => n1 (List.mem_append_left _ z)) ey
            exact ⟨t, mi.mpr (.inr ht), k⟩
          · exact ⟨_, mi.mpr (.inl rfl), hasI_iff.mpr ⟨hs y yd, by omega⟩⟩
      · have e := er t
        by_cases et : t = (S x).1
        · rw [et, if_pos rt] at e
          rw [et]
          omega
        · have ht := (mi.mp ht).resolve_left et
          have f := q.full t ht
          rw [ldI_snoc, if_neg (fun z => et (nx t ht z))] at e
          have : ¬ hasI S t r = true := fun k => by
            rcases mor hr with z | z
            · have := low t ht r z k
              omega
            · exact et (nx t ht (z ▸ k))
          rw [if_neg this] at e
          omega
      · obtain ⟨m1, m2⟩ := me.mp hm
        by_cases et : t = (S x).1
        · have := rm m m2 (et ▸ k)
          omega
        · have ht := (mi.mp ht).resolve_left et
          rcases mor m2 with z | z
          · have := low t ht m z k
            omega
          · exact absurd (nx t ht (z ▸ k)) et
      · obtain ⟨m1, m2⟩ := me.mp hm
        have one : ∀ t, t ∈ M → hasI S t m = true → hasI S (S x).1 m = true → t = (S x).1 := fun t ht k kk => by
          rcases mor m2 with z | z
          · have h1 := low t ht m z k
            have h2 := (hasI_iff.mp kk).2
            omega
          · exact nx t ht (z ▸ k)
        rcases mi.mp ht with e | ht
        · rcases mi.mp ht' with e' | ht'
          · rw [e, e']
          · rw [e] at k1
            rw [e, one t' ht' k2 k1]
        · rcases mi.mp ht' with e' | ht'
          · rw [e'] at k2
            rw [e', one t ht k1 k2]
          · rcases mor m2 with z | z
            · exact q.once m z t ht t' ht' k1 k2
            · rw [nx t ht (z ▸ k1), nx t' ht' (z ▸ k2)]
/-! the count -/
def hitI (S : Nat → Sty) (M : List Int) (m : Nat) : Bool := M.any fun t => hasI S t m
theorem hit_sum (S : Nat → Sty) (B : List Nat) : ∀ M : List Int, B.countP (hitI S M) ≤ (M.map (ldI S B)).sum
  | [] => by simp [hitI]
  | t :: M => by
    have ih := hit_sum S B M
    have : B.countP (hitI S (t :: M)) ≤ B.countP (hasI S t) + B.countP (hitI S M) := by
      clear ih
      induction B with
      | nil => simp
      | cons b B ih =>
        simp only [List.countP_cons]
        have e : hitI S (t :: M) b = (hasI S t b || hitI S M b) := rfl
        rw [e]
        cases hasI S t b <;> cases hitI S M b <;> simp <;> omega
    rw [List.map_cons, List.sum_cons]
    have e : ldI S B t = B.countP (hasI S t) := rfl
    omega
theorem hit_eq (S : Nat → Sty) (B : List Nat) : ∀ M : List Int, M.Nodup → (∀ m ∈ B, ∀ t ∈ M, ∀ t' ∈ M, hasI S t m = true → hasI S t' m = true → t = t') → B.countP (hitI S M) = (M.map (ldI S B)).sum
  | [], _, _ => by simp [hitI]
  | t :: M, nd, on => by
    obtain ⟨n1, n2⟩ := List.nodup_cons.mp nd
    have ih := hit_eq S B M n2 fun m hm t1 h1 t2 h2 => on m hm t1 (List.mem_cons_of_mem _ h1) t2 (List.mem_cons_of_mem _ h2)
    have dis : ∀ m ∈ B, hasI S t m = true → hitI S M m = false := fun m hm k => by
      refine Bool.eq_false_iff.mpr fun z => ?_
      obtain ⟨t', h1, h2⟩ := List.any_eq_true.mp z
      exact n1 (on m hm t List.mem_cons_self t' (List.mem_cons_of_mem _ h1) k h2 ▸ h1)
    have : B.countP (hitI S (t :: M)) = B.countP (hasI S t) + B.countP (hitI S M) := by
      clear ih on
      induction B with
      | nil => simp
      | cons b B ih =>
        simp only [List.countP_cons]
        have e : hitI S (t :: M) b = (hasI S t b || hitI S M b) := rfl
        have d0 := dis b List.mem_cons_self
        have i0 := ih fun m hm => dis m (List.mem_cons_of_mem _ hm)
        rw [e]
        cases q : hasI S t b with
        | true => rw [d0 q]; simp; omega
        | false => cases hitI S M b <;> simp <;> omega
    rw [List.map_cons, List.sum_cons, ← ih]
    exact this
def missI (S : Nat → Sty) (n : Nat) (M : List Int) : Nat := (List.range n).countP fun m => !hitI S M m
theorem sum_le {c : Nat} {f : Int → Nat} : ∀ {M : List Int}, (∀ t ∈ M, f t ≤ c) → (M.map f).sum ≤ c * M.length
  | [], _ => by simp
  | t :: M, h => by
    have ih := sum_le (M := M) fun t ht => h t (List.mem_cons_of_mem _ ht)
    have := h t List.mem_cons_self
    rw [List.map_cons, List.sum_cons, List.length_cons, Nat.mul_succ]
    omega
theorem sum_eq {c : Nat} {f : Int → Nat} : ∀ {M : List Int}, (∀ t ∈ M, f t = c) → (M.map f).sum = c * M.length
  | [], _ => by simp
  | t :: M, h => by
    have ih := sum_eq (M := M) fun t ht => h t (List.mem_cons_of_mem _ ht)
    have := h t List.mem_cons_self
    rw [List.map_cons, List.sum_cons, List.length_cons, Nat.mul_succ]
    omega
theorem len_split (S : Nat → Sty) (M : List Int) : ∀ B : List Nat, B.length = B.countP (hitI S M) + B.countP (fun m => !hitI S M m)
  | [] => rfl
  | b :: B => by
    have ih := len_split S M B
    simp only [List.countP_cons, List.length_cons]
    cases hitI S M b <;> simp <;> omega
theorem countP_sub {p : Nat → Bool} {B C : List Nat} (nd : B.Nodup) (h : ∀ m ∈ B, p m = true → m ∈ C) : B.countP p ≤ C.countP p := by
  rw [List.countP_eq_length_filter, List.countP_eq_length_filter]
  refine List.Nodup.length_le_of_subset (List.Pairwise.filter p nd) fun m hm => ?_
  obtain ⟨h1, h2⟩ := List.mem_filter.mp hm
  exact List.mem_filter.mpr ⟨h m h1 h2, h2⟩
/-- no accepted list is longer than the bound of any moments -/
theorem weak {S : Nat → Sty} {c n : Nat} {B : List Nat} (nd : B.Nodup) (hb : ∀ m ∈ B, m < n) (cap : ∀ t, ldI S B t ≤ c) (M : List Int) : B.length ≤ c * M.length + missI S n M := by
  have h1 := len_split S M B
  have h2 := hit_sum S B M
  have h3 := sum_le (M := M) fun t _ => cap t
  have h4 : B.countP (fun m => !hitI S M m) ≤ missI S n M := countP_sub nd fun m hm _ => List.mem_range.mpr (hb m hm)
  omega
/-- the kept list meets the bound of its moments -/
theorem strong {S : Nat → Sty} {c n : Nat} {d ms : List Nat} {h : Int} {M : List Int} (hd : ∀ m, m ∈ d ↔ m < n) (a : Acc S c d ms) (q : Dual S c d ms h M) (hh : ∀ m, m < n → (S m).2 ≤ h) : ms.length = c * M.length + missI S n M := by
  have h1 := len_split S M ms
  have h2 := hit_eq S ms M q.nd q.once
  have h3 := sum_eq (M := M) q.full
  have h4 : ms.countP (fun m => !hitI S M m) ≤ missI S n M := countP_sub a.nd fun m hm _ => List.mem_range.mpr ((hd m).mp (a.sub m hm))
  have h5 : missI S n M ≤ ms.countP (fun m => !hitI S M m) := countP_sub List.nodup_range fun m hm k => by
    by_cases z : m ∈ ms
    · exact z
    · have hm := List.mem_range.mp hm
      obtain ⟨t, ht, e⟩ := q.rej m ((hd m).mpr hm) z (hh m hm)
      have : hitI S M m = true := List.any_eq_true.mpr ⟨t, ht, e⟩
      rw [this] at k
      cases k
  omega
/-- few hold each start, few hold each moment -/
theorem cap_starts {S : Nat → Sty} {c : Nat} {B : List Nat} (h : ∀ m ∈ B, ldI S B (S m).1 ≤ c) (t : Int) : ldI S B t ≤ c := by
  have big : ∀ L : List Nat, L ≠ [] → ∃ m ∈ L, ∀ y ∈ L, (S y).1 ≤ (S m).1 := fun L => by
    induction L with
    | nil => intro z; exact absurd rfl z
    | cons a L ih =>
      intro _
      by_cases e : L = []
      · exact ⟨a, by simp, fun y hy => by rw [e] at hy; rw [List.mem_singleton.mp hy]; exact Int.le_refl _⟩
      · obtain ⟨m, hm, k⟩ := ih e
        by_cases z : (S a).1 ≤ (S m).1
        · exact ⟨m, by simp [hm], fun y hy => (List.mem_cons.mp hy).elim (fun e => by rw [e]; exact z) (k y)⟩
        · exact ⟨a, by simp, fun y hy => (List.mem_cons.mp hy).elim (fun e => by rw [e]; exact Int.le_refl _) fun hy => by have := k y hy; omega⟩
  by_cases e : B.filter (hasI S t) = []
  · have : ldI S B t = 0 := by rw [ldI, List.countP_eq_length_filter, e]; rfl
    omega
  · obtain ⟨m, hm, k⟩ := big _ e
    obtain ⟨m1, m2⟩ := List.mem_filter.mp hm
    refine Nat.le_trans ?_ (h m m1)
    refine List.countP_mono_left fun y hy z => ?_
    have k1 := k y (List.mem_filter.mpr ⟨hy, z⟩)
    have k2 := hasI_iff.mp z
    have k3 := hasI_iff.mp m2
    exact hasI_iff.mpr ⟨k1, by omega⟩

/-! what shared boxes and bookings ask -/
theorem c_need_shared (k : Nat) (ss : List Sty) (c : Nat) (w : D) (hl : ss.length ≤ 60) (h : ∀ s ∈ ss, StOk s) (hc : c ≤ 60) : tab.call (k + 7) 10 [.fz (.list (ss.map st)), .fz (.int (c : Int)), .fz w] = .ok (.fz .none, []) := by
  refine call_sat f_need_shared rfl rfl ?_ rfl rfl
  have e1 := c_need_stays k ss 60 w (by omega) h
  have e2 := c_need_range (k + 3) (.int (c : Int)) (.str "count") 0 60 (by simp [inR]; omega)
  simp [f_need_shared, initR, e1, e2]
theorem y_need_shared (k : Nat) (c : Nat) (fs : List D) (d e : D) (h : ∀ k, tab.call (k + 6) 8 [.fz d, .fz (.int 60), .fz (.str "stays")] = .ex c fs) : tab.call (k + 7) 10 [.fz d, .fz e, .fz (.str "stays")] = .ex c fs := by
  refine call_ex f_need_shared rfl rfl ?_ rfl rfl
  simp [f_need_shared, initR, h]
theorem x_need_shared (k : Nat) (ss : List Sty) (e w : D) (hl : ss.length ≤ 60) (h : ∀ s ∈ ss, StOk s) (he : inR e 0 60 = false) : tab.call (k + 7) 10 [.fz (.list (ss.map st)), .fz e, .fz w] = .ex 0 [.str "count"] := by
  refine call_ex f_need_shared rfl rfl ?_ rfl rfl
  have e1 := c_need_stays k ss 60 w (by omega) h
  have e2 := x_need_range (k + 3) e (.str "count") 0 60 he
  simp [f_need_shared, initR, e1, e2]
theorem nd_st (ss : List Sty) : nds (ss.map st) = true := nds_map fun _ _ => rfl
theorem dp_st (ss : List Sty) : PyData.depthAll (ss.map st) ≤ 1 := dp_map fun _ _ => by simp
def ordS (ss : List Sty) : List Nat := ordF (fun j => ((ss[j]?).getD (0, 0)).1) ss.length
theorem c_stay_order (k : Nat) (ss : List Sty) (hl : ss.length ≤ 1000) : tab.call (k + 1) 11 [.fz (.list (ss.map st))] = .ok (.lst (fzs (intN (ordF (fun j => ((ss[j]?).getD (0, 0)).1) ss.length))), []) := by
  refine call_sat f_stay_order rfl rfl ?_ rfl rfl
  have key := srtr_ord (fun j => ((ss[j]?).getD (0, 0)).1) (fun d => Ky.ev ([some (.fz (.list (ss.map st))), some (.fz d)] : Rho) (.pr (.ix (.ix (.v 0) (.v 1)) (.n 0)) (.v 1))) ss.length hl fun x hx => by
    have g := List.getElem?_eq_getElem hx
    have g2 : (ss.map st)[x]? = some (st ss[x]) := by rw [List.getElem?_map, g]; rfl
    simp [Ky.ev, ixK, g2, g]
  simp [f_stay_order, initR, key]

theorem ascL_is {lo hi : Int} (h0 : 0 ≤ lo) : ∀ (last : Int) (ds : List D), ascL lo hi last ds = true → ∃ L : List Nat, ds = intN L ∧ L.Pairwise (· < ·) ∧ ∀ x ∈ L, last < (x : Int) ∧ lo ≤ (x : Int) ∧ (x : Int) ≤ hi
  | _, [], _ => ⟨[], rfl, by simp, by simp⟩
  | last, .int i :: ds, h => by
    unfold ascL at h
    have h1 : (inR (.int i) lo hi && (decide (last < i) && ascL lo hi i ds)) = true := by simpa [inR, Bool.and_comm, Bool.and_left_comm, Bool.and_assoc] using h
    obtain ⟨a, b⟩ := Bool.and_eq_true_iff.mp h1
    obtain ⟨c, d⟩ := Bool.and_eq_true_iff.mp b
    obtain ⟨L, rfl, e2, e3⟩ := ascL_is h0 i ds d
    have c : last < i := by simpa using c
    obtain ⟨j, ej, r1, r2⟩ := inR_is a
    cases ej
    refine ⟨i.toNat :: L, ?_, List.pairwise_cons.mpr ⟨fun x hx => ?_, e2⟩, fun x hx => ?_⟩
    · rw [intN, intN, List.map_cons, show ((i.toNat : Nat) : Int) = i by omega]
    · have := e3 x hx; omega
    · rcases List.mem_cons.mp hx with z | z
      · rw [z]; omega
      · have := e3 x z; omega
  | last, .none :: ds, h => by simp [ascL] at h
  | last, .bool _ :: ds, h => by simp [ascL] at h
  | last, .str _ :: ds, h => by simp [ascL] at h
  | last, .list _ :: ds, h => by simp [ascL] at h
  | last, .tuple _ :: ds, h => by simp [ascL] at h
  | last, .dict _ :: ds, h => by simp [ascL] at h
theorem ascB_is {hi : Int} {d : D} (h : ascB 0 hi d = true) : ∃ L : List Nat, d = .list (intN L) ∧ L.Pairwise (· < ·) ∧ ∀ x ∈ L, (x : Int) ≤ hi := by
  cases d with
  | list ds =>
    obtain ⟨L, rfl, a, b⟩ := ascL_is (Int.le_refl 0) (0 - 1) ds h
    exact ⟨L, rfl, a, fun x hx => (b x hx).2.2⟩
  | _ => cases h
theorem intN_ints (L : List Nat) : intN L = (L.map fun n : Nat => (n : Int)).map .int := by rw [List.map_map]; rfl
theorem ascB_N {n : Nat} {L : List Nat} (hL : ∀ r ∈ L, r < n) (ha : L.Pairwise (· < ·)) : ascB 0 ((n : Int) - 1) (.list (intN L)) = true := by
  have := ascB_ints (lo := 0) (hi := (n : Int) - 1) (ns := L.map fun n : Nat => (n : Int)) ⟨List.pairwise_map.mpr (ha.imp fun h => by omega), fun x hx => by
    obtain ⟨r, hr, rfl⟩ := List.mem_map.mp hx
    have := hL r hr
    omega⟩
  rw [intN_ints]
  exact this
theorem c__law_whole (k : Nat) (d : D) : tab.call (k + 1) 18 [.fz d] = .ok (.fz (.bool (isInt d)), []) := by
  refine body_sat (G := tab.gm k []) (b := f__law_whole.body) ?_ rfl rfl rfl
  cases d <;> simp [f__law_whole, initR, isInt, isTy_dict]
theorem c__law_members (k : Nat) (d : D) (n : Nat) : tab.call (k + 2) 21 [.fz d, .fz (.int (n : Int))] = .ok (.fz (.bool (ascB 0 ((n : Int) - 1) d)), []) := by
  refine call_sat f__law_members rfl rfl ?_ rfl rfl
  simp only [f__law_members, initR]
  cases d with
  | list ds =>
    simp [-forL_cons]
    refine sat_loopD (fun d ρ => ∃ (last : Int) (x : Option T), ρ = [some (.fz (.list ds)), some (.fz (.int (n : Int))), some (.fz (.int last)), x] ∧ -1 ≤ last ∧ ∀ r, ascL 0 ((n : Int) - 1) (-1) (d ++ r) = ascL 0 ((n : Int) - 1) last r) ⟨-1, none, rfl, by omega, fun r => rfl⟩ ?_ ?_
    · rintro d x r ρ e ⟨last, y, rfl, h0, h⟩
      have hx : ascB 0 ((n : Int) - 1) (.list ds) = ascL 0 ((n : Int) - 1) last (x :: r) := by rw [e]; exact h (x :: r)
      cases x with
      | int i =>
        by_cases hl : i ≤ last
        · have hl2 : ¬ last < i := by omega
          simp [c__law_whole, isInt, hl, hx, ascL, hl2]
        · by_cases hn : (n : Int) ≤ i
          · have hn2 : ¬ i ≤ (n : Int) - 1 := by omega
            simp [c__law_whole, isInt, hl, hn, hx, ascL, inR, hn2]
          · have hl2 : last < i := by omega
            have hn2 : i ≤ (n : Int) - 1 := by omega
            have h02 : 0 ≤ i := by omega
            simp [c__law_whole, isInt, hl, hn]
            refine ⟨by omega, fun r' => ?_⟩
            have := h (.int i :: r')
            simp [ascL, hl2, inR, hn2, h02] at this
            exact this
      | _ => simp [c__law_whole, isInt, hx, ascL, inR]
    · rintro ρ ⟨last, y, rfl, h0, h⟩
      have := h []
      simp [ascL] at this
      simp [ascB, this]
  | _ => simp [ascB, isTy_dict]

/-! the walk that accepts stays -/
abbrev SI (ss : List Sty) (m : Nat) : Sty := (ss[m]?).getD (0, 0)
def keyE (ss : List Sty) (m : Nat) : D := pr2 ((SI ss m).2, (m : Int))
def bestF (ss : List Sty) : List Nat → Nat
  | [] => 0
  | p :: ps => ps.foldl (fun a y => if PySem.W.dataLt (keyE ss a) (keyE ss y) = true then y else a) p
def stepA (ss : List Sty) (c : Nat) (ms : List Nat) (x : Nat) : List Nat :=
  if c < ((ms ++ [x]).filter (hasI (SI ss) (SI ss x).1)).length then (ms ++ [x]).erase (bestF ss ((ms ++ [x]).filter (hasI (SI ss) (SI ss x).1))) else ms ++ [x]
def accF (ss : List Sty) (c : Nat) : List Nat → List Nat → List Nat
  | [], ms => ms
  | x :: o, ms => accF ss c o (stepA ss c ms x)
def bookF (ss : List Sty) (c : Nat) : List Nat := accF ss c (ordS ss) []
def bookL (ss : List Sty) (c : Nat) : List Int := sortI ((bookF ss c).map fun n : Nat => (n : Int))
theorem lt_pr2 (p q : Int × Int) : PySem.W.dataLt (pr2 p) (pr2 q) = !leP q p := by
  have e : PySem.W.dataLe false id (pr2 q) (pr2 p) = leP q p := congrFun (congrFun (PySem.W.dataLe_ii (β := Int × Int) (fun p => p.1) (fun p => p.2)) q) p
  have e2 : PySem.W.dataLe false id (pr2 q) (pr2 p) = !PySem.W.dataLt (pr2 p) (pr2 q) := rfl
  rw [← e, e2, Bool.not_not]
theorem best_spec (ss : List Sty) : ∀ (ps : List Nat) (p : Nat), (ps.foldl (fun a y => if PySem.W.dataLt (keyE ss a) (keyE ss y) = true then y else a) p) ∈ p :: ps ∧ ∀ m ∈ p :: ps, (SI ss m).2 ≤ (SI ss (ps.foldl (fun a y => if PySem.W.dataLt (keyE ss a) (keyE ss y) = true then y else a) p)).2
  | [], p => ⟨by simp, fun m hm => by rw [List.mem_singleton.mp hm]; exact Int.le_refl _⟩
  | y :: ps, p => by
    rw [List.foldl_cons]
    have e : PySem.W.dataLt (keyE ss p) (keyE ss y) = !leP ((SI ss y).2, (y : Int)) ((SI ss p).2, (p : Int)) := lt_pr2 _ _
    by_cases z : PySem.W.dataLt (keyE ss p) (keyE ss y) = true
    · rw [if_pos z]
      obtain ⟨h1, h2⟩ := best_spec ss ps y
      rw [e] at z
      have z : leP ((SI ss y).2, (y : Int)) ((SI ss p).2, (p : Int)) = false := by simpa using z
      have z2 : ¬ ((SI ss y).2 < (SI ss p).2 ∨ ((SI ss y).2 = (SI ss p).2 ∧ (y : Int) ≤ (p : Int))) := fun k => by rw [(leP_is _ _).mpr k] at z; cases z
      refine ⟨List.mem_cons_of_mem _ h1, fun m hm => ?_⟩
      rcases List.mem_cons.mp hm with k | k
      · have := h2 y List.mem_cons_self
        rw [k]
        omega
      · exact h2 m k
    · rw [if_neg z]
      obtain ⟨h1, h2⟩ := best_spec ss ps p
      rw [e] at z
      have z : leP ((SI ss y).2, (y : Int)) ((SI ss p).2, (p : Int)) = true := by simpa using z
      have z2 := (leP_is _ _).mp z
      have z2 : (SI ss y).2 < (SI ss p).2 ∨ ((SI ss y).2 = (SI ss p).2 ∧ (y : Int) ≤ (p : Int)) := z2
      refine ⟨?_, fun m hm => ?_⟩
      · rcases List.mem_cons.mp h1 with k | k
        · rw [k]; simp
        · simp [k]
      · have hp := h2 p List.mem_cons_self
        rcases List.mem_cons.mp hm with k | k
        · rw [k]; exact hp
        · rcases List.mem_cons.mp k with k | k
          · rw [k]; omega
          · exact h2 m (List.mem_cons_of_mem _ k)
theorem bestF_spec {ss : List Sty} {pr : List Nat} (h : pr ≠ []) : bestF ss pr ∈ pr ∧ ∀ m ∈ pr, (SI ss m).2 ≤ (SI ss (bestF ss pr)).2 := by
  cases pr with
  | nil => exact absurd rfl h
  | cons p ps => exact best_spec ss ps p
theorem step_acc {ss : List Sty} {c : Nat} {d ms : List Nat} {x : Nat} (a : Acc (SI ss) c d ms) (xd : x ∉ d) (hs : ∀ m ∈ d, (SI ss m).1 ≤ (SI ss x).1) (hx : (SI ss x).1 < (SI ss x).2) : Acc (SI ss) c (d ++ [x]) (stepA ss c ms x) := by
  have el : ldI (SI ss) (ms ++ [x]) (SI ss x).1 = ((ms ++ [x]).filter (hasI (SI ss) (SI ss x).1)).length := List.countP_eq_length_filter
  unfold stepA
  by_cases z : c < ((ms ++ [x]).filter (hasI (SI ss) (SI ss x).1)).length
  · rw [if_pos z]
    have ne : (ms ++ [x]).filter (hasI (SI ss) (SI ss x).1) ≠ [] := fun e => by rw [e] at z; simp at z
    obtain ⟨b1, b2⟩ := bestF_spec (ss := ss) ne
    obtain ⟨b3, b4⟩ := List.mem_filter.mp b1
    exact acc_drop a xd hs (by rw [el]; exact z) hx b3 b4 fun m hm k => b2 m (List.mem_filter.mpr ⟨hm, k⟩)
  · rw [if_neg z]
    exact acc_keep a xd hs (by rw [el]; omega) hx
theorem acc_all {ss : List Sty} {c : Nat} (h : ∀ s ∈ ss, StOk s) : ∀ (o d ms : List Nat), Acc (SI ss) c d ms → (∀ x ∈ o, x < ss.length) → o.Nodup → (∀ x ∈ o, x ∉ d) → (∀ x ∈ o, ∀ m ∈ d, (SI ss m).1 ≤ (SI ss x).1) → o.Pairwise (fun x y => (SI ss x).1 ≤ (SI ss y).1) → Acc (SI ss) c (d ++ o) (accF ss c o ms)
  | [], d, ms, a, _, _, _, _, _ => by rw [List.append_nil]; exact a
  | x :: o, d, ms, a, lt, nd, nn, le, pw => by
    obtain ⟨n1, n2⟩ := List.nodup_cons.mp nd
    obtain ⟨p1, p2⟩ := List.pairwise_cons.mp pw
    have hx : (SI ss x).1 < (SI ss x).2 := by
      have g := List.getElem?_eq_getElem (lt x (by simp))
      have : SI ss x = ss[x]'(lt x (by simp)) := by
        show (ss[x]?).getD (0, 0) = _
        rw [g]
        rfl
      rw [this]
      have := h _ (List.getElem_mem (lt x (by simp)))
      unfold StOk at this
      omega
    have a2 := step_acc a (nn x (by simp)) (le x (by simp)) hx
    have := acc_all h o (d ++ [x]) (stepA ss c ms x) a2 (fun y hy => lt y (by simp [hy])) n2 (fun y hy k => ?_) (fun y hy m hm => ?_) p2
    · rw [List.append_assoc] at this
      exact this
    · rcases List.mem_append.mp k with z | z
      · exact nn y (by simp [hy]) z
      · rw [List.mem_singleton.mp z] at hy
        exact n1 hy
    · rcases List.mem_append.mp hm with z | z
      · exact le y (by simp [hy]) m z
      · rw [List.mem_singleton.mp z]
        exact p1 y hy
theorem acc_book {ss : List Sty} (c : Nat) (h : ∀ s ∈ ss, StOk s) : Acc (SI ss) c (ordS ss) (bookF ss c) := by
  have := acc_all h (ordS ss) [] [] (acc_nil (SI ss) c) (fun x hx => ordF_mem.mp hx) (ordF_nd _ _) (fun x _ k => by cases k) (fun x _ m hm => by cases hm) ((ordF_asc _ _).imp fun {x y} k => ?_)
  · exact this
  · rcases (leP_is _ _).mp k with z | z
    · exact Int.le_of_lt z
    · exact Int.le_of_eq z.1
/-! as integers -/
theorem erase_nat : ∀ {ms : List Nat} {r : Nat}, r ∈ ms → ∃ n, (ms.map fun n : Nat => (n : Int)).findIdx? (fun x => decide (x = (r : Int))) = some n ∧ (ms.map fun n : Nat => (n : Int)).eraseIdx n = (ms.erase r).map fun n : Nat => (n : Int)
  | [], _, h => by cases h
  | a :: ms, r, h => by
    by_cases e : a = r
    · subst e
      refine ⟨0, ?_, by simp⟩
      rw [List.map_cons, List.findIdx?_cons, decide_eq_true rfl]
      rfl
    · have hr : r ∈ ms := (List.mem_cons.mp h).resolve_left fun z => e z.symm
      obtain ⟨n, h1, h2⟩ := erase_nat hr
      refine ⟨n + 1, ?_, ?_⟩
      · have : ¬ ((a : Int) = (r : Int)) := by omega
        simp only [List.map_cons, List.findIdx?_cons, this, decide_false, h1]
        rfl
      · rw [List.erase_cons_tail (by simpa using e)]
        simp only [List.map_cons, List.eraseIdx_cons_succ, h2]
theorem rmv_nat (i : Nat) (ρ : Rho) {ms : List Nat} {r : Nat} (h : r ∈ ms) : rmvR i ρ (.ok (fzs (intN ms))) (.ok (.fz (.int (r : Int)))) = .nx (ρ.set i (some (.lst (fzs (intN (ms.erase r)))))) := by
  obtain ⟨n, h1, h2⟩ := erase_nat h
  have := rmvR_ok i ρ (ms.map fun n : Nat => (n : Int)) (r : Int) n h1
  rw [h2] at this
  rw [intN_ints, intN_ints]
  exact this
theorem foldl_keys (ss : List Sty) (kd : D → D) : ∀ (ps : List Nat) (p : Nat), (∀ m ∈ p :: ps, kd (.int (m : Int)) = keyE ss m) → (intN ps).foldl (fun a y => if PySem.W.dataLt (kd a) (kd y) = true then y else a) (.int (p : Int)) = .int ((ps.foldl (fun a y => if PySem.W.dataLt (keyE ss a) (keyE ss y) = true then y else a) p : Nat) : Int)
  | [], p, _ => rfl
  | y :: ps, p, h => by
    show (intN ps).foldl _ (if PySem.W.dataLt (kd (PyData.int (p : Int))) (kd (PyData.int (y : Int))) = true then (PyData.int (y : Int)) else (PyData.int (p : Int))) = _
    rw [h p (by simp), h y (by simp), List.foldl_cons]
    by_cases z : PySem.W.dataLt (keyE ss p) (keyE ss y) = true
    · rw [if_pos z, if_pos z]
      exact foldl_keys ss kd ps y fun m hm => h m (by simp at hm ⊢; exact .inr hm)
    · rw [if_neg z, if_neg z]
      exact foldl_keys ss kd ps p fun m hm => h m (by simp at hm ⊢; exact hm.imp id .inr)
theorem sd_keys (ss : List Sty) (pr : List Nat) (h : pr.length ≤ 1000) : sdOk (pr.map (keyE ss)) = true := by
  have := sd_pr2 (pr.map fun m => ((SI ss m).2, (m : Int))) (by simpa using h)
  rw [List.map_map] at this
  exact this
theorem maxk_nat (ss : List Sty) (f : D → Option D) (pr : List Nat) (h : pr ≠ []) (hl : pr.length ≤ 1000) (hk : ∀ m ∈ pr, f (.int (m : Int)) = some (keyE ss m)) : maxKD f (.list (intN pr)) = .ok (.fz (.int (bestF ss pr : Nat))) := by
  cases pr with
  | nil => exact absurd rfl h
  | cons p ps =>
    have ky : ∀ m ∈ p :: ps, kyD f (.int (m : Int)) = keyE ss m := fun m hm => by
      unfold kyD
      rw [hk m hm]
      rfl
    have em : (PyData.int (p : Int) :: intN ps).map (kyD f) = (p :: ps).map (keyE ss) := by
      show (intN (p :: ps)).map (kyD f) = _
      rw [intN, List.map_map]
      exact List.map_congr_left fun m hm => ky m hm
    show maxKD f (.list (.int (p : Int) :: intN ps)) = _
    rw [maxKD_eq f _ _ ?_ (by rw [em]; exact sd_keys ss _ hl)]
    · have e := foldl_keys ss (kyD f) ps p ky
      exact congrArg (fun d => Gn.R.ok (T.fz d)) e
    · refine List.all_eq_true.mpr fun d hd => ?_
      have hd : d ∈ intN (p :: ps) := hd
      obtain ⟨m, hm, rfl⟩ := List.mem_map.mp hd
      have e1 : (f (.int (m : Int))).isSome = true := by rw [hk m hm]; rfl
      have e2 : nl (kyD f (.int (m : Int))) = true := by rw [ky m hm]; rfl
      rw [e1, e2]
      rfl
theorem foldl_pairs (ss : List Sty) : ∀ (ps : List Nat) (p : Nat), (ps.map (keyE ss)).foldl (fun a y => if PySem.W.dataLt a y = true then y else a) (keyE ss p) = keyE ss (ps.foldl (fun a y => if PySem.W.dataLt (keyE ss a) (keyE ss y) = true then y else a) p)
  | [], p => rfl
  | y :: ps, p => by
    rw [List.map_cons, List.foldl_cons, List.foldl_cons]
    by_cases z : PySem.W.dataLt (keyE ss p) (keyE ss y) = true
    · rw [if_pos z, if_pos z]
      exact foldl_pairs ss ps y
    · rw [if_neg z, if_neg z]
      exact foldl_pairs ss ps p
theorem maxd_nat (ss : List Sty) (pr : List Nat) (h : pr ≠ []) (hl : pr.length ≤ 1000) : biD true .maxD [.list (pr.map (keyE ss))] = .ok (.fz (keyE ss (bestF ss pr))) := by
  cases pr with
  | nil => exact absurd rfl h
  | cons p ps =>
    rw [List.map_cons, bi_maxD _ _ (by rw [← List.map_cons]; exact sd_keys ss _ hl)]
    exact congrArg (fun d => Gn.R.ok (T.fz d)) (foldl_pairs ss ps p)

theorem lf_nat (L : List Nat) : lf1 (.ok (.lst (fzs (intN L)))) = .ok (.lst (fzs (intN L))) := lf1_ok _ (by
  show T.lfs (fzs (intN L)) = true
  rw [T.lfs_all]
  simp [fzs, T.lf, flat])
theorem step_len (ss : List Sty) (c : Nat) (ms : List Nat) (x : Nat) : (stepA ss c ms x).length ≤ ms.length + 1 := by
  unfold stepA
  split
  · refine Nat.le_trans List.length_erase_le ?_
    simp
  · simp
theorem step_mem {ss : List Sty} {c : Nat} {ms : List Nat} {x m : Nat} (h : m ∈ stepA ss c ms x) : m ∈ ms ∨ m = x := by
  unfold stepA at h
  split at h
  · have := List.mem_of_mem_erase h
    simpa using this
  · simpa using h
theorem sort_int (ns : List Int) : biD true .sorted [.list (ns.map .int)] = .ok (.lst (fzs ((sortI ns).map .int))) := bi_sorted_l (c := true) ns (intsOf_map ns)
theorem c_accepted (k : Nat) (ss : List Sty) (c : Nat) (hl : ss.length ≤ 60) : tab.call (k + 2) 12 [.fz (.list (ss.map st)), .fz (.int (c : Int))] = .ok (.lst (fzs ((bookL ss c).map .int)), []) := by
  refine call_sat f_accepted rfl rfl ?_ rfl rfl
  have so := c_stay_order k ss (by omega)
  have so : tab.call (k + 1) 11 [.fz (.list (ss.map st))] = .ok (.lst (fzs (intN (ordS ss))), []) := so
  have om : ∀ x ∈ ordS ss, x < ss.length := fun x hx => ordF_mem.mp hx
  have ol : (ordS ss).length = ss.length := ordF_len _ _
  have eb : bookL ss c = sortI ((accF ss c (ordS ss) []).map fun n : Nat => (n : Int)) := rfl
  have lfN := lf_nat
  rw [eb]
  generalize ordS ss = od at *
  simp only [f_accepted, initR]
  simp [so, -forL_cons, -List.map_map]
  refine sat_loop (e := fun n : Nat => PyData.int (n : Int)) (fun d ρ => ∃ (ms : List Nat) (x3 x4 x5 : Option T), ρ = [some (.fz (.list (ss.map st))), some (.fz (.int (c : Int))), some (.lst (fzs (intN ms))), x3, x4, x5, none] ∧ ms.length ≤ d.length ∧ (∀ m ∈ ms, m < ss.length) ∧ ∀ rest, accF ss c (d ++ rest) [] = accF ss c rest ms) ⟨[], _, _, _, rfl, by simp, (fun _ h => by cases h), fun _ => rfl⟩ ?_ ?_
  · intro d x r ρ e hI
    refine sat_anyB fun BB => ?_
    obtain ⟨ms, x3, x4, x5, eρ, hm, hi, hr⟩ := hI
    rw [eρ]
    have hx : x < ss.length := om x (by rw [e]; simp)
    have dl : d.length < ss.length := by have := congrArg List.length e; simp at this; omega
    have g1 := List.getElem?_eq_getElem hx
    have esi : SI ss x = ss[x] := by
      show (ss[x]?).getD (0, 0) = _
      rw [g1]
      rfl
    generalize ss[x] = s at g1 esi
    have a1 := at_getE st g1
    have hi2 : ∀ m ∈ ms ++ [x], m < ss.length := fun m h => by
      rcases List.mem_append.mp h with z | z
      · exact hi m z
      · rw [List.mem_singleton.mp z]; exact hx
    have cs : ∀ x3 x4 x5 : Option T, x4 = some (.fz (.int s.1)) → compL (cpF (tab.gm (k + 1) []) (.var 6) 6 [.call 9 [(.idx (.var 0) (.var 6)), (.var 4)]] [some (.fz (.list (ss.map st))), some (.fz (.int (c : Int))), some (.lst (fzs (intN (ms ++ [x])))), x3, x4, x5, none]) (intN (ms ++ [x])) = .ok (fzs (intN ((ms ++ [x]).filter (hasI (SI ss) s.1)))) := fun x3 x4 x5 e4 => by
      rw [e4]
      refine compL_filter _ (fun n : Nat => PyData.int (n : Int)) (fun n : Nat => PyData.int (n : Int)) (hasI (SI ss) s.1) _ fun m hm => ?_
      have g := List.getElem?_eq_getElem (hi2 m hm)
      have b1 := at_getE st g
      have eh : hasI (SI ss) s.1 m = hasM (ss[m]'(hi2 m hm)) s.1 := by
        show hasM ((ss[m]?).getD (0, 0)) s.1 = _
        rw [g]
        rfl
      rw [eh]
      generalize ss[m]'(hi2 m hm) = u at b1
      simp [cpF_one, b1, c_has_moment]
    have cs := cs (some (.fz (.int (x : Int)))) _ x5 rfl
    have sn : fzs (intN ms) ++ [T.fz (.int (x : Int))] = fzs (intN (ms ++ [x])) := by rw [fz_snoc]; simp
    have st0 : stepA ss c ms x = if c < ((ms ++ [x]).filter (hasI (SI ss) s.1)).length then (ms ++ [x]).erase (bestF ss ((ms ++ [x]).filter (hasI (SI ss) s.1))) else ms ++ [x] := by
      show (if c < ((ms ++ [x]).filter (hasI (SI ss) (SI ss x).1)).length then _ else _) = _
      rw [esi]
    have fl : ((ms ++ [x]).filter (hasI (SI ss) s.1)).length ≤ (ms ++ [x]).length := List.length_filter_le _ _
    have fm : ∀ m ∈ (ms ++ [x]).filter (hasI (SI ss) s.1), m ∈ ms ++ [x] := fun m h => (List.mem_filter.mp h).1
    have nx : ∀ rest, accF ss c (d ++ [x] ++ rest) [] = accF ss c rest (stepA ss c ms x) := fun rest => by
      rw [List.append_assoc, hr]
      rfl
    have sl := step_len ss c ms x
    have smm : ∀ m ∈ stepA ss c ms x, m < ss.length := fun m h => by
      rcases step_mem h with z | z
      · exact hi m z
      · rw [z]; exact hx
    have ll : (ms ++ [x]).length = ms.length + 1 := by simp
    generalize (ms ++ [x]).filter (hasI (SI ss) s.1) = pr at *
    generalize ems : ms ++ [x] = mx at *
    have z1 : ms.length < sizeLine := sz_lt (by omega)
    have z2 : mx.length ≤ sizeLine := sz_le (by omega)
    by_cases q : c < pr.length
    · rw [if_pos q] at st0
      have ne : pr ≠ [] := fun z => by rw [z] at q; simp at q
      have mk := maxk_nat ss (fun d => Ky.ev ([some (.fz (.list (ss.map st))), some (.fz (.int (c : Int))), some (.lst (fzs (intN mx))), some (.fz (.int (x : Int))), some (.fz (.int s.1)), some (.fz (.list (intN pr))), some (.fz d)] : Rho) (.pr (.ix (.ix (.v 0) (.v 6)) (.n 1)) (.v 6))) pr ne (by omega) fun m hm => by
        have g := List.getElem?_eq_getElem (hi2 m (fm m hm))
        have g2 : (ss.map st)[m]? = some (st (ss[m]'(hi2 m (fm m hm)))) := by rw [List.getElem?_map, g]; rfl
        have g3 : SI ss m = ss[m]'(hi2 m (fm m hm)) := by
          show (ss[m]?).getD (0, 0) = _
          rw [g]
          rfl
        simp [Ky.ev, ixK, g2, keyE, g3]
      have bm := fm _ (bestF_spec (ss := ss) ne).1
      have rv := fun ρ => rmv_nat 2 ρ bm
      generalize bestF ss pr = b at *
      have qi : (c : Int) < (pr.length : Int) := by omega
      simp [a1, appR_ok, z1, sn, cs, lstC_ok, z2, lfN, q, mk, rv, -List.map_map]
      exact ⟨stepA ss c ms x, by rw [st0], by omega, smm, by simpa using nx⟩
    · rw [if_neg q] at st0
      have qi : ¬ (c : Int) < (pr.length : Int) := by omega
      simp [a1, appR_ok, z1, sn, cs, lstC_ok, z2, lfN, q, -List.map_map]
      exact ⟨stepA ss c ms x, by rw [st0], by omega, smm, by simpa using nx⟩
  · rintro ρ ⟨ms, x3, x4, x5, rfl, hm, hi, hr⟩
    have fin : accF ss c od [] = ms := by
      have := hr []
      rw [List.append_nil] at this
      exact this
    rw [fin]
    have so := sort_int (ms.map fun n : Nat => (n : Int))
    have e : (ms.map fun n : Nat => (n : Int)).map PyData.int = intN ms := (intN_ints ms).symm
    rw [e] at so
    simp [so, -List.map_map]

theorem c_most_bookings (k : Nat) (ss : List Sty) (c : Nat) (hl : ss.length ≤ 60) (h : ∀ s ∈ ss, StOk s) (hc : c ≤ 60) : tab.call (k + 8) 13 [.fz (.list (ss.map st)), .fz (.int (c : Int))] = .ok (.lst (fzs ((bookL ss c).map .int)), []) := by
  refine call_sat f_most_bookings rfl rfl ?_ rfl rfl
  have e1 := c_need_shared k ss c (.str "stays") hl h hc
  have e2 := c_accepted (k + 5) ss c hl
  simp [f_most_bookings, initR, e1, e2, -List.map_map]
def natsD (ds : List D) : List Nat := ds.map fun d => match d with
  | .int i => i.toNat
  | _ => 0
theorem natsD_N (L : List Nat) : natsD (intN L) = L := by
  induction L with
  | nil => rfl
  | cons a L ih =>
    show (Int.toNat (a : Int)) :: natsD (intN L) = a :: L
    rw [ih, Int.toNat_natCast]
def fewB (ss : List Sty) (c : Nat) (ms : List Nat) : Bool := ms.all fun m => decide ((ms.filter (hasI (SI ss) (SI ss m).1)).length ≤ c)
def accB (ss : List Sty) (c : Nat) (d : D) : Bool := ascB 0 ((ss.length : Int) - 1) d && (match d with
  | .list ds => fewB ss c (natsD ds)
  | _ => true)
theorem accB_N (ss : List Sty) (c : Nat) {L : List Nat} (h : ascB 0 ((ss.length : Int) - 1) (.list (intN L)) = true) : accB ss c (.list (intN L)) = fewB ss c L := by
  show (ascB 0 ((ss.length : Int) - 1) (.list (intN L)) && fewB ss c (natsD (intN L))) = _
  rw [h, natsD_N]
  rfl
theorem SI_at {ss : List Sty} {m : Nat} (h : m < ss.length) : ss[m]? = some (SI ss m) := by
  have g := List.getElem?_eq_getElem h
  show _ = some ((ss[m]?).getD (0, 0))
  rw [g]
  rfl
theorem has_comp (k : Nat) (ss : List Sty) (L : List Nat) (t : Int) (hi : ∀ m ∈ L, m < ss.length) (ρ : Rho) (h0 : ρ[0]? = some (some (.fz (.list (ss.map st))))) (h4 : ρ[4]? = some (some (.fz (.int t)))) (h5 : 5 < ρ.length) : compL (cpF (tab.gm (k + 1) []) (.var 5) 5 [.call 9 [(.idx (.var 0) (.var 5)), (.var 4)]] ρ) (intN L) = .ok (fzs (intN (L.filter (hasI (SI ss) t)))) := by
  refine compL_filter _ (fun n : Nat => PyData.int (n : Int)) (fun n : Nat => PyData.int (n : Int)) (hasI (SI ss) t) _ fun m hm => ?_
  have b1 := at_getE st (SI_at (hi m hm))
  have g0 : (ρ.set 5 (some (.fz (.int (m : Int)))))[0]? = some (some (.fz (.list (ss.map st)))) := by rw [List.getElem?_set_ne (by decide)]; exact h0
  have g4 : (ρ.set 5 (some (.fz (.int (m : Int)))))[4]? = some (some (.fz (.int t))) := by rw [List.getElem?_set_ne (by decide)]; exact h4
  have g5 : (ρ.set 5 (some (T.fz (.int (m : Int)))))[5]? = some (some (.fz (.int (m : Int)))) := List.getElem?_set_self h5
  simp [cpF_one, g0, g4, g5, b1, c_has_moment]
theorem c_is_accepted (k : Nat) (ss : List Sty) (c : Nat) (d : D) (hl : ss.length ≤ 60) (h : ∀ s ∈ ss, StOk s) (hc : c ≤ 60) : tab.call (k + 8) 14 [.fz (.list (ss.map st)), .fz (.int (c : Int)), .fz d] = .ok (.fz (.bool (accB ss c d)), []) := by
  have e1 := c_need_shared k ss c (.str "stays") hl h hc
  have e2 := c_is_ascending (k + 4) d 0 ((ss.length : Int) - 1)
  cases ea : ascB 0 ((ss.length : Int) - 1) d with
  | false =>
    rw [ea] at e2
    have : accB ss c d = false := by unfold accB; rw [ea]; rfl
    rw [this]
    refine call_sat f_is_accepted rfl rfl ?_ rfl rfl
    simp [f_is_accepted, initR, e1, e2, -List.map_map]
  | true =>
    rw [ea] at e2
    obtain ⟨L, rfl, lp, lm⟩ := ascB_is ea
    rw [accB_N ss c ea]
    have hi : ∀ m ∈ L, m < ss.length := fun m hm => by have := lm m hm; omega
    have ll : L.length ≤ ss.length := by
      have := List.Nodup.length_le_of_subset (l₂ := List.range ss.length) (lp.imp fun h => Nat.ne_of_lt h) fun m hm => List.mem_range.mpr (hi m hm)
      simpa using this
    refine call_sat f_is_accepted rfl rfl ?_ rfl rfl
    simp only [f_is_accepted, initR]
    simp [e1, e2, -List.map_map, -forL_cons]
    refine sat_loop (e := fun n : Nat => PyData.int (n : Int)) (fun dd ρ => ∃ (x3 x4 : Option T), ρ = [some (.fz (.list (ss.map st))), some (.fz (.int (c : Int))), some (.fz (.list (intN L))), x3, x4, none] ∧ ∀ m ∈ dd, (L.filter (hasI (SI ss) (SI ss m).1)).length ≤ c) ⟨_, _, rfl, (fun _ h => by cases h)⟩ ?_ ?_
    · intro dd x r ρ e hI
      refine sat_anyB fun BB => ?_
      obtain ⟨x3, x4, eρ, hf⟩ := hI
      rw [eρ]
      have hx : x ∈ L := by rw [e]; simp
      have a1 := at_getE st (SI_at (hi x hx))
      have cs := fun ρ h0 h4 h5 => has_comp (k + 6) ss L (SI ss x).1 hi ρ h0 h4 h5
      have cs2 := cs [some (.fz (.list (ss.map st))), some (.fz (.int (c : Int))), some (.fz (.list (intN L))), some (.fz (.int (x : Int))), some (.fz (.int (SI ss x).1)), none] rfl rfl (by simp)
      have fl : (L.filter (hasI (SI ss) (SI ss x).1)).length ≤ L.length := List.length_filter_le _ _
      have bad : c < (L.filter (hasI (SI ss) (SI ss x).1)).length → fewB ss c L = false := fun q => by
        refine Bool.eq_false_iff.mpr fun z => ?_
        have := of_decide_eq_true (List.all_eq_true.mp z x hx)
        omega
      have good' : (L.filter (hasI (SI ss) (SI ss x).1)).length ≤ c → ∀ m ∈ dd ++ [x], (L.filter (hasI (SI ss) (SI ss m).1)).length ≤ c := fun q m hm => by
        rcases List.mem_append.mp hm with z | z
        · exact hf m z
        · rw [List.mem_singleton.mp z]; exact q
      clear cs
      generalize L.filter (hasI (SI ss) (SI ss x).1) = F at *
      have z2 : L.length ≤ sizeLine := sz_le (by omega)
      by_cases q : c < F.length
      · have qi : (c : Int) < (F.length : Int) := by omega
        simp [a1, cs2, lstC_ok, z2, q, bad q, -List.map_map]
      · simp [a1, cs2, lstC_ok, z2, q, -List.map_map]
        have := good' (by omega)
        intro m hm
        exact this m (by simpa using hm)
    · rintro ρ ⟨x3, x4, rfl, hf⟩
      have : fewB ss c L = true := List.all_eq_true.mpr fun m hm => decide_eq_true (hf m hm)
      simp [this]

theorem c__law_booked (k : Nat) (ss : List Sty) (c : Nat) (hl : ss.length ≤ 60) : tab.call (k + 2) 22 [.fz (.list (ss.map st)), .fz (.int (c : Int))] = .ok (.lst (fzs ((bookL ss c).map .int)), []) := by
  refine call_sat f__law_booked rfl rfl ?_ rfl rfl
  have rg : rngD 0 (ss.length : Int) = .ok (intN (List.range ss.length)) := rng_nat _ (by omega)
  have cs0 : ∀ x2 x3 x4 : Option T, compL (cpF (tab.gm (k + 1) []) (.tup [(.idx (.idx (.var 0) (.var 5)) (.cst (.int 0))), (.var 5)]) 5 [] [some (.fz (.list (ss.map st))), some (.fz (.int (c : Int))), x2, x3, x4, none]) (intN (List.range ss.length)) = .ok (fzs ((List.range ss.length).map fun x : Nat => pr2 ((SI ss x).1, (x : Int)))) := fun x2 x3 x4 => by
    refine compL_all _ (fun n : Nat => PyData.int (n : Int)) _ _ fun x hx => ?_
    have a1 := at_getE st (SI_at (List.mem_range.mp hx))
    simp [cpF_nil, a1]
  have sd : biD true .sortedD [.list ((List.range ss.length).map fun x : Nat => pr2 ((SI ss x).1, (x : Int)))] = .ok (.lst (fzs ((ordS ss).map fun x : Nat => pr2 ((SI ss x).1, (x : Int))))) := by
    have e : ((List.range ss.length).map fun x : Nat => pr2 ((SI ss x).1, (x : Int))) = (((List.range ss.length).map fun x : Nat => ((SI ss x).1, (x : Int))).map pr2) := by
      rw [List.map_map]
      rfl
    have e2 : ((ordS ss).map fun x : Nat => pr2 ((SI ss x).1, (x : Int))) = (((ordS ss).map fun x : Nat => ((SI ss x).1, (x : Int))).map pr2) := by
      rw [List.map_map]
      rfl
    rw [e, e2]
    have o : sortP ((List.range ss.length).map fun x : Nat => ((SI ss x).1, (x : Int))) = (ordS ss).map fun x : Nat => ((SI ss x).1, (x : Int)) := ordF_pairs (fun x : Nat => (SI ss x).1) ss.length
    rw [← o, ← sortD_pr2]
    exact bi_sortedD (c := true) _ (sd_pr2 _ (by simp; omega))
  have om : ∀ x ∈ ordS ss, x < ss.length := fun x hx => ordF_mem.mp hx
  have ol : (ordS ss).length = ss.length := ordF_len _ _
  have eb : bookL ss c = sortI ((accF ss c (ordS ss) []).map fun n : Nat => (n : Int)) := rfl
  rw [eb]
  generalize ordS ss = od at *
  simp only [f__law_booked, initR]
  simp [rg, cs0, sd, lstC_ok, sz_le (n := ss.length) (by omega), -forL_cons, -List.map_map]
  refine sat_loop (e := fun x : Nat => pr2 ((SI ss x).1, (x : Int))) (fun d ρ => ∃ (ms : List Nat) (x3 x4 x5 : Option T), ρ = [some (.fz (.list (ss.map st))), some (.fz (.int (c : Int))), some (.lst (fzs (intN ms))), x3, x4, none] ∧ ms.length ≤ d.length ∧ (∀ m ∈ ms, m < ss.length) ∧ ∀ rest, accF ss c (d ++ rest) [] = accF ss c rest ms) ⟨[], _, _, none, rfl, by simp, (fun _ h => by cases h), fun _ => rfl⟩ ?_ ?_
  · intro d x r ρ e hI
    refine sat_anyB fun BB => ?_
    obtain ⟨ms, x3, x4, _, eρ, hm, hi, hr⟩ := hI
    rw [eρ]
    have hx : x < ss.length := om x (by rw [e]; simp)
    have dl : d.length < ss.length := by have := congrArg List.length e; simp at this; omega
    have hi2 : ∀ m ∈ ms ++ [x], m < ss.length := fun m h => by
      rcases List.mem_append.mp h with z | z
      · exact hi m z
      · rw [List.mem_singleton.mp z]; exact hx
    have cs : ∀ x4 : Option T, compL (cpF (tab.gm (k + 1) []) (.tup [(.idx (.idx (.var 0) (.var 5)) (.cst (.int 1))), (.var 5)]) 5 [.call 19 [(.idx (.var 0) (.var 5)), (.idx (.var 3) (.cst (.int 0)))]] [some (.fz (.list (ss.map st))), some (.fz (.int (c : Int))), some (.lst (fzs (intN (ms ++ [x])))), some (.fz (.tuple [.int (SI ss x).1, .int (x : Int)])), x4, none]) (intN (ms ++ [x])) = .ok (fzs (((ms ++ [x]).filter (hasI (SI ss) (SI ss x).1)).map (keyE ss))) := fun x4 => by
      refine compL_filter _ (fun n : Nat => PyData.int (n : Int)) (keyE ss) (hasI (SI ss) (SI ss x).1) _ fun m hm => ?_
      have b1 := at_getE st (SI_at (hi2 m hm))
      simp [cpF_one, b1, c__law_holds, keyE]
    have cs := cs x4
    have sn : fzs (intN ms) ++ [T.fz (.int (x : Int))] = fzs (intN (ms ++ [x])) := by rw [fz_snoc]; simp
    have st0 : stepA ss c ms x = if c < ((ms ++ [x]).filter (hasI (SI ss) (SI ss x).1)).length then (ms ++ [x]).erase (bestF ss ((ms ++ [x]).filter (hasI (SI ss) (SI ss x).1))) else ms ++ [x] := rfl
    have fl : ((ms ++ [x]).filter (hasI (SI ss) (SI ss x).1)).length ≤ (ms ++ [x]).length := List.length_filter_le _ _
    have fm : ∀ m ∈ (ms ++ [x]).filter (hasI (SI ss) (SI ss x).1), m ∈ ms ++ [x] := fun m h => (List.mem_filter.mp h).1
    have nx : ∀ rest, accF ss c (d ++ [x] ++ rest) [] = accF ss c rest (stepA ss c ms x) := fun rest => by
      rw [List.append_assoc, hr]
      rfl
    have sl := step_len ss c ms x
    have smm : ∀ m ∈ stepA ss c ms x, m < ss.length := fun m h => by
      rcases step_mem h with z | z
      · exact hi m z
      · rw [z]; exact hx
    have ll : (ms ++ [x]).length = ms.length + 1 := by simp
    generalize (ms ++ [x]).filter (hasI (SI ss) (SI ss x).1) = pr at *
    generalize ems : ms ++ [x] = mx at *
    have lfK : lf1 (.ok (.lst (fzs (pr.map (keyE ss))))) = .ok (.lst (fzs (pr.map (keyE ss)))) := lf1_ok _ (by
      show T.lfs (fzs (pr.map (keyE ss))) = true
      rw [T.lfs_all]
      simp [fzs, T.lf, flat, keyE]
      exact fun _ _ => rfl)
    have z1 : ms.length < sizeLine := sz_lt (by omega)
    have z2 : mx.length ≤ sizeLine := sz_le (by omega)
    by_cases q : c < pr.length
    · rw [if_pos q] at st0
      have ne : pr ≠ [] := fun z => by rw [z] at q; simp at q
      have mk := maxd_nat ss pr ne (by omega)
      have bm := fm _ (bestF_spec (ss := ss) ne).1
      have rv := fun ρ => rmv_nat 2 ρ bm
      have k1 : keyE ss (bestF ss pr) = .tuple [.int (SI ss (bestF ss pr)).2, .int (bestF ss pr : Nat)] := rfl
      rw [k1] at mk
      generalize bestF ss pr = b at *
      have qi : (c : Int) < (pr.length : Int) := by omega
      simp [appR_ok, z1, sn, cs, lstC_ok, z2, lfK, q, mk, rv, -List.map_map]
      exact ⟨stepA ss c ms x, by rw [st0], by omega, smm, by simpa using nx⟩
    · rw [if_neg q] at st0
      have qi : ¬ (c : Int) < (pr.length : Int) := by omega
      simp [appR_ok, z1, sn, cs, lstC_ok, z2, lfK, q, -List.map_map]
      exact ⟨stepA ss c ms x, by rw [st0], by omega, smm, by simpa using nx⟩
  · rintro ρ ⟨ms, x3, x4, _, rfl, hm, hi, hr⟩
    have fin : accF ss c od [] = ms := by
      have := hr []
      rw [List.append_nil] at this
      exact this
    rw [fin]
    have so := sort_int (ms.map fun n : Nat => (n : Int))
    have e : (ms.map fun n : Nat => (n : Int)).map PyData.int = intN ms := (intN_ints ms).symm
    rw [e] at so
    simp [so, -List.map_map]
theorem c__law_is_accepted (k : Nat) (ss : List Sty) (c : Nat) (d : D) (hl : ss.length ≤ 60) : tab.call (k + 3) 23 [.fz (.list (ss.map st)), .fz (.int (c : Int)), .fz d] = .ok (.fz (.bool (accB ss c d)), []) := by
  have e2 := c__law_members k d ss.length
  cases ea : ascB 0 ((ss.length : Int) - 1) d with
  | false =>
    rw [ea] at e2
    have : accB ss c d = false := by unfold accB; rw [ea]; rfl
    rw [this]
    refine call_sat f__law_is_accepted rfl rfl ?_ rfl rfl
    simp [f__law_is_accepted, initR, e2, -List.map_map]
  | true =>
    rw [ea] at e2
    obtain ⟨L, rfl, lp, lm⟩ := ascB_is ea
    rw [accB_N ss c ea]
    have hi : ∀ m ∈ L, m < ss.length := fun m hm => by have := lm m hm; omega
    have ll : L.length ≤ ss.length := by
      have := List.Nodup.length_le_of_subset (l₂ := List.range ss.length) (lp.imp fun h => Nat.ne_of_lt h) fun m hm => List.mem_range.mpr (hi m hm)
      simpa using this
    refine call_sat f__law_is_accepted rfl rfl ?_ rfl rfl
    have hm : ∀ t, loadM (L.map (SI ss)) t = (L.filter (hasI (SI ss) t)).length := fun t => by
      unfold loadM
      rw [List.filter_map, List.length_map]
      rfl
    have c1 : compL (cpF (tab.gm (k + 2) []) (.idx (.var 0) (.var 4)) 4 [] [some (.fz (.list (ss.map st))), some (.fz (.int (c : Int))), some (.fz (.list (intN L))), none, none, none]) (intN L) = .ok (fzs ((L.map (SI ss)).map st)) := by
      rw [List.map_map]
      refine compL_all _ (fun n : Nat => PyData.int (n : Int)) _ _ fun m hm => ?_
      have b1 := at_getE st (SI_at (hi m hm))
      simp [cpF_nil, b1]
    have ld := fun t => c__law_load k (L.map (SI ss)) t (by simp; omega)
    have c2 : compL (cpF (tab.gm (k + 2) []) (.cmp .le (.call 20 [(.var 3), (.idx (.var 5) (.cst (.int 0)))]) (.var 1)) 5 [] [some (.fz (.list (ss.map st))), some (.fz (.int (c : Int))), some (.fz (.list (intN L))), some (.fz (.list ((L.map (SI ss)).map st))), none, none]) ((L.map (SI ss)).map st) = .ok (fzs ((L.map (SI ss)).map fun s => .bool (decide ((loadM (L.map (SI ss)) s.1 : Int) ≤ (c : Int))))) := by
      refine compL_all _ st _ _ fun s hs => ?_
      simp [cpF_nil, ld, -List.map_map]
    have al : biD true .all [.list ((L.map (SI ss)).map fun s => PyData.bool (decide (loadM (L.map (SI ss)) s.1 ≤ c)))] = .ok (.fz (.bool (fewB ss c L))) := by
      rw [bi_allF]
      have : (L.map (SI ss)).all (fun s => decide (loadM (L.map (SI ss)) s.1 ≤ c)) = fewB ss c L := by
        unfold fewB
        rw [List.all_map]
        exact congrArg (fun f => L.all f) (funext fun m => by
          show decide (loadM (L.map (SI ss)) (SI ss m).1 ≤ c) = _
          rw [hm])
      rw [this]
    simp only [f__law_is_accepted, initR]
    have z2 : L.length ≤ sizeLine := sz_le (by omega)
    simp [e2, c1, c2, al, lstC_ok, z2, -List.map_map]

/-! papers without dicts, of small depth -/
def Pk (d : D) : Prop := nd d = true ∧ d.depth ≤ 3
theorem Pk_ints (L : List Int) : Pk (.list (L.map .int)) := ⟨by rw [nd_list]; exact nds_map fun _ _ => rfl, by
  have : PyData.depthAll (L.map PyData.int) ≤ 0 := dp_map fun _ _ => by simp
  rw [dp_list]; omega⟩
theorem Pk_tup (L : List Int) : Pk (.tuple (L.map .int)) := ⟨by rw [nd_tuple]; exact nds_map fun _ _ => rfl, by
  have : PyData.depthAll (L.map PyData.int) ≤ 0 := dp_map fun _ _ => by simp
  rw [dp_tuple]; omega⟩
theorem nds_app (A B : List D) : nds (A ++ B) = (nds A && nds B) := by
  induction A with
  | nil => rfl
  | cons a A ih =>
    show (nd a && nds (A ++ B)) = ((nd a && nds A) && nds B)
    rw [ih, Bool.and_assoc]
theorem Pk_mid (A B : List Int) (x : D) (h : nd x = true) (hd : x.depth ≤ 1) : Pk (.list (A.map .int ++ x :: B.map .int)) := by
  have a : nds (A.map PyData.int) = true := nds_map fun _ _ => rfl
  have b : nds (B.map PyData.int) = true := nds_map fun _ _ => rfl
  have a2 : PyData.depthAll (A.map PyData.int) ≤ 0 := dp_map fun _ _ => by simp
  have b2 : PyData.depthAll (B.map PyData.int) ≤ 0 := dp_map fun _ _ => by simp
  refine ⟨?_, ?_⟩
  · rw [nd_list, nds_app, a]
    show (true && (nd x && nds _)) = true
    rw [h, b]
    rfl
  · rw [dp_list, dp_app, dp_cons]
    omega
def PkL (us : List T) : Prop := ∀ t ∈ us, Pk t.d
theorem PkL_snoc {us : List T} {t : T} (h : PkL us) (k : Pk t.d) : PkL (us ++ [t]) := fun x hx => by
  rcases List.mem_append.mp hx with z | z
  · exact h x z
  · rw [List.mem_singleton.mp z]; exact k
theorem pk_end {us : List T} (h : PkL us) : ∃ ds, (T.lst us).d = .list ds ∧ ∀ d ∈ ds, Pk d := ⟨_, rfl, fun d hd => by
  rw [T.ds_map] at hd
  obtain ⟨t, ht, rfl⟩ := List.mem_map.mp hd
  exact h t ht⟩
theorem dlst (ds : List D) : (T.lst (fzs ds)).d = .list ds := by simp
def oneT (u : T) : Prop := ∃ ds, u.d = .list ds ∧ ∀ d ∈ ds, Pk d
/-! told faults -/
@[simp] theorem str_ne1 : (PySem.Str.ofString "BadValue" = PySem.Str.ofString "TooMany") = False := by simp; decide
theorem xf1 : tab.xf 0 "what" = some 0 := xf_0_0
theorem xf2 : tab.xf 1 "limit" = some 0 := xf_1_0
/-- an error, as it is told -/
structure Flt (c : Nat) (fs : List D) (f : D) : Prop where
  or : (c = 0 ∧ ∃ w, fs = [.str w] ∧ f = .tuple [.str "BadValue", .str w]) ∨ (c = 1 ∧ ∃ n, fs = [.int n] ∧ f = .tuple [.str "TooMany", .int n])
theorem Flt.eq {c : Nat} {fs : List D} {f : D} (F : Flt c fs f) : cmpD .ne f f = .ok false := by
  rcases F.or with ⟨rfl, w, rfl, rfl⟩ | ⟨rfl, n, rfl, rfl⟩ <;> rw [cn_same _ rfl (by simp)]
theorem Flt.ee {c : Nat} {fs : List D} {f : D} (F : Flt c fs f) : cmpD .eq f f = .ok true := by
  rcases F.or with ⟨rfl, w, rfl, rfl⟩ | ⟨rfl, n, rfl, rfl⟩ <;> rw [ce_same _ rfl (by simp)]
theorem Flt.nn {c : Nat} {fs : List D} {f : D} (F : Flt c fs f) : cmpD .is f .none = .ok false := by
  rcases F.or with ⟨rfl, w, rfl, rfl⟩ | ⟨rfl, n, rfl, rfl⟩ <;> rfl
theorem BadL.flt {d f : D} (b : BadL d f) : ∃ c fs, (∀ k, tab.call (k + 6) 8 [.fz d, .fz (.int 60), .fz (.str "stays")] = .ex c fs) ∧ Flt c fs f := by
  obtain ⟨c, fs, h, o⟩ := b.ex
  exact ⟨c, fs, h, ⟨o⟩⟩

theorem x_most_bookings (k : Nat) (c : Nat) (fs : List D) (d e : D) (h : ∀ k, tab.call (k + 7) 10 [.fz d, .fz e, .fz (.str "stays")] = .ex c fs) : tab.call (k + 8) 13 [.fz d, .fz e] = .ex c fs := by
  refine call_ex f_most_bookings rfl rfl ?_ rfl rfl
  simp [f_most_bookings, initR, h]
theorem x_is_accepted (k : Nat) (c : Nat) (fs : List D) (d e b : D) (h : ∀ k, tab.call (k + 7) 10 [.fz d, .fz e, .fz (.str "stays")] = .ex c fs) : tab.call (k + 8) 14 [.fz d, .fz e, .fz b] = .ex c fs := by
  refine call_ex f_is_accepted rfl rfl ?_ rfl rfl
  simp [f_is_accepted, initR, h]
theorem said_ex (k c : Nat) (fs : List D) (w : Int) (a b f : D) (F : Flt c fs f) (h : (w = 0 ∨ w = 1) ∧ ∀ k, tab.call (k + 7) 10 [.fz a, .fz b, .fz (.str "stays")] = .ex c fs) :
    tab.call (k + 9) 28 [.fz (.int w), .fz a, .fz b] = .ok (.fz f, []) := by
  refine call_sat f__law_said rfl rfl ?_ rfl rfl
  have hh : (w = 0 ∧ tab.call (k + 8) 13 [.fz a, .fz b] = .ex c fs) ∨ (w = 1 ∧ tab.call (k + 8) 14 [.fz a, .fz b, .fz .none] = .ex c fs) := by
    obtain ⟨w0, h⟩ := h
    rcases w0 with w0 | w0
    · exact .inl ⟨w0, x_most_bookings k c fs a b h⟩
    · exact .inr ⟨w0, x_is_accepted k c fs a b _ h⟩
  clear h
  rcases F.or with ⟨rfl, w', rfl, rfl⟩ | ⟨rfl, n, rfl, rfl⟩
  · have x := xflR_some 0 [.str w'] tab.xf "what" 0 (.str w') xf1 rfl
    rcases hh with ⟨rfl, h⟩ | ⟨rfl, h⟩ <;> simp [f__law_said, initR, h, tryR_ex, x]
  · have x := xflR_some 1 [.int n] tab.xf "limit" 0 (.int n) xf2 rfl
    rcases hh with ⟨rfl, h⟩ | ⟨rfl, h⟩ <;> simp [f__law_said, initR, h, tryR_ex, x]
theorem c__law_spoilt (k : Nat) (ns : List Int) (ss : List Sty) (e : Nat) (hz : ss.length ≤ 60) (h : ∀ s ∈ ss, StOk s) : tab.call (k + 10) 29 [.fz (.list (ns.map .int)), .fz (.int 6), .fz (.list (ss.map st)), .fz (.int (e : Int))] = .ok (.fz (.bool true), []) := by
  refine call_sat f__law_spoilt rfl rfl ?_ rfl rfl
  obtain ⟨c1, e1⟩ := c__law_cell (k + 8) ns 6 (by omega)
  obtain ⟨ms, r1, l1, i1⟩ := c__law_row (k + 8) c1 60 5 (by decide) (by decide) (by decide)
  have e1 : tab.call (k + 9) 15 [.fz (.list (ns.map .int)), .fz (.int 6)] = .ok (.fz (.int c1), []) := e1
  match ms, l1 with
  | [m0, m1, m2, m3, m4], _ =>
    have r1 : tab.call (k + 9) 16 [.fz (.int c1), .fz (.int 5), .fz (.int 60)] = .ok (.lst [.fz (.int m0), .fz (.int m1), .fz (.int m2), .fz (.int m3), .fz (.int m4)], []) := r1
    obtain ⟨tb, eb, bd, bf, etb, hb⟩ := c__law_bad_stays (k + 8) ss (m3 % 11) m4 (by omega) hz h
    obtain ⟨cb, fb, hns, fl⟩ := hb.flt
    have hnh : ∀ (e : D) k, tab.call (k + 7) 10 [.fz bd, .fz e, .fz (.str "stays")] = .ex cb fb := fun e k => y_need_shared k cb fb bd e hns
    have s0 : ∀ e, tab.call (k + 9) 28 [.fz (.int 0), .fz bd, .fz e] = .ok (.fz bf, []) := fun e => said_ex k _ _ 0 _ e _ fl ⟨.inl rfl, hnh e⟩
    have s1 : ∀ e, tab.call (k + 9) 28 [.fz (.int 1), .fz bd, .fz e] = .ok (.fz bf, []) := fun e => said_ex k _ _ 1 _ e _ fl ⟨.inr rfl, hnh e⟩
    have fc : Flt 0 [.str "count"] (.tuple [.str "BadValue", .str "count"]) := ⟨.inl ⟨rfl, _, rfl, rfl⟩⟩
    have cd : ∀ d, inR d 0 60 = false → ∀ k, tab.call (k + 7) 10 [.fz (.list (ss.map st)), .fz d, .fz (.str "stays")] = .ex 0 [.str "count"] := fun d hd k => x_need_shared k ss d _ hz h hd
    have t0 : ∀ d, inR d 0 60 = false → tab.call (k + 9) 28 [.fz (.int 0), .fz (.list (ss.map st)), .fz d] = .ok (.fz (.tuple [.str "BadValue", .str "count"]), []) := fun d hd => said_ex k _ _ 0 _ d _ fc ⟨.inl rfl, cd d hd⟩
    have t1 : ∀ d, inR d 0 60 = false → tab.call (k + 9) 28 [.fz (.int 1), .fz (.list (ss.map st)), .fz d] = .ok (.fz (.tuple [.str "BadValue", .str "count"]), []) := fun d hd => said_ex k _ _ 1 _ d _ fc ⟨.inr rfl, cd d hd⟩
    have q1 : m1 % 6 = 0 ∨ m1 % 6 = 1 ∨ m1 % 6 = 2 ∨ m1 % 6 = 3 ∨ m1 % 6 = 4 ∨ m1 % 6 = 5 := by omega
    have ix0 : ixN 2 0 = some 0 := rfl
    have ix1 : ixN 2 1 = some 1 := rfl
    have rg : rngD 0 2 = .ok [.int 0, .int 1] := rfl
    obtain ⟨d1, v1, hd1⟩ : ∃ d1, atI [PyData.int (-1), .int 61, .bool true, .none, .str "3", .list [.int 3]] (m1 % 6) = some d1 ∧ inR d1 0 60 = false := by
      rcases q1 with q | q | q | q | q | q <;> rw [q] <;> exact ⟨_, rfl, rfl⟩
    have sz3 : 2 ≤ sizeLine := sz_le (by decide)
    have ball : biD true .all [.list [.bool true, .bool true]] = .ok (.fz (.bool true)) := rfl
    have fce := fc.ee
    have fcn := fc.nn
    by_cases a0 : m0 % 2 = 0
    · by_cases a2 : m2 % 2 = 0
      · simp [f__law_spoilt, initR, e1, r1, rg, cpF_nil, lstC_ok, sz3, ball, bt_mod, a0, a2, v1, eb, etb, updR_ok, ix0, ix1, s0, s1, fl.eq, fl.nn, fl.ee]
      · simp [f__law_spoilt, initR, e1, r1, rg, cpF_nil, lstC_ok, sz3, ball, bt_mod, a0, a2, v1, eb, etb, updR_ok, ix0, ix1, t0, t1, hd1, fce, fcn]
    · by_cases a2 : m2 % 2 = 0
      · simp [f__law_spoilt, initR, e1, r1, rg, cpF_nil, lstC_ok, sz3, ball, bt_mod, a0, a2, eb, etb, updR_ok, ix0, ix1, s0, s1, fl.eq, fl.nn, fl.ee]
      · simp [f__law_spoilt, initR, e1, r1, rg, cpF_nil, lstC_ok, sz3, ball, bt_mod, a0, a2]

/-! what is told of the kept list -/
theorem fewB_is {ss : List Sty} {c : Nat} {L : List Nat} : fewB ss c L = true ↔ ∀ m ∈ L, ldI (SI ss) L (SI ss m).1 ≤ c := by
  unfold fewB
  rw [List.all_eq_true]
  refine ⟨fun h m hm => ?_, fun h m hm => ?_⟩
  · have := of_decide_eq_true (h m hm)
    rw [ldI, List.countP_eq_length_filter]
    exact this
  · have := h m hm
    rw [ldI, List.countP_eq_length_filter] at this
    exact decide_eq_true this
theorem book_is {ss : List Sty} (c : Nat) (h : ∀ s ∈ ss, StOk s) : ∃ L : List Nat, (bookL ss c).map PyData.int = intN L ∧ L.Pairwise (· < ·) ∧ (∀ m ∈ L, m < ss.length) ∧ fewB ss c L = true ∧ (bookL ss c).length = L.length ∧ L.length = (bookF ss c).length := by
  have a := acc_book c h
  have p : (bookL ss c).Perm ((bookF ss c).map fun n : Nat => (n : Int)) := sortI_perm _
  refine ⟨(bookL ss c).map Int.toNat, ?_, ?_, fun m hm => ?_, ?_, by simp, ?_⟩
  · rw [intN, List.map_map]
    refine List.map_congr_left fun x hx => ?_
    obtain ⟨n, _, rfl⟩ := List.mem_map.mp (p.mem_iff.mp hx)
    rfl
  · have so : (bookL ss c).Pairwise (· ≤ ·) := sortI_sorted _
    have nd : (bookL ss c).Nodup := p.nodup_iff.mpr (List.pairwise_map.mpr (a.nd.imp fun h => by omega))
    have lt : (bookL ss c).Pairwise (· < ·) := by
      refine (so.and nd).imp fun {x y} h => ?_
      have h1 := h.1
      have h2 := h.2
      omega
    refine List.pairwise_map.mpr (lt.imp_of_mem fun {x y} hx hy h => ?_)
    obtain ⟨n, _, rfl⟩ := List.mem_map.mp (p.mem_iff.mp hx)
    obtain ⟨m, _, rfl⟩ := List.mem_map.mp (p.mem_iff.mp hy)
    simp
    omega
  · obtain ⟨x, hx, rfl⟩ := List.mem_map.mp hm
    obtain ⟨n, hn, rfl⟩ := List.mem_map.mp (p.mem_iff.mp hx)
    exact ordF_mem.mp (a.sub n hn)
  · have pq : ((bookL ss c).map Int.toNat).Perm (bookF ss c) := by
      have := p.map Int.toNat
      rw [List.map_map] at this
      have e : (bookF ss c).map (Int.toNat ∘ fun n : Nat => (n : Int)) = bookF ss c := by
        conv => rhs; rw [← List.map_id (bookF ss c)]
        exact List.map_congr_left fun x _ => by simp
      rwa [e] at this
    exact fewB_is.mpr fun m _ => by
      have := a.cap (SI ss m).1
      rw [ldI, pq.countP_eq]
      exact this
  · have := p.length_eq
    simpa using this
theorem book_best {ss : List Sty} {c : Nat} (h : ∀ s ∈ ss, StOk s) {B : List Nat} (nd : B.Pairwise (· < ·)) (hb : ∀ m ∈ B, m < ss.length) (f : fewB ss c B = true) : B.length ≤ (bookF ss c).length := by
  have a := acc_book c h
  obtain ⟨M, q⟩ := a.dual 1000000
  have e := strong (n := ss.length) (fun m => ordF_mem) a q fun m hm => by
    have := h _ (List.getElem_mem hm)
    have e := SI_at hm
    rw [List.getElem?_eq_getElem hm] at e
    have e := Option.some.inj e
    rw [← e]
    unfold StOk at this
    omega
  have w := weak (S := SI ss) (n := ss.length) (nd.imp fun h => Nat.ne_of_lt h) hb (cap_starts (fewB_is.mp f)) M
  omega
/-! all the lists of numbers -/
def subsF : Nat → List (List Nat)
  | 0 => [[]]
  | k + 1 => subsF k ++ (subsF k).map fun L => L ++ [k]
theorem subs_ok : ∀ (k : Nat), (subsF k).length = 2 ^ k ∧ ∀ L ∈ subsF k, L.Pairwise (· < ·) ∧ (∀ m ∈ L, m < k) ∧ L.length ≤ k
  | 0 => ⟨rfl, fun L hL => by rw [List.mem_singleton.mp hL]; exact ⟨.nil, (fun _ h => by cases h), Nat.le_refl _⟩⟩
  | k + 1 => by
    obtain ⟨h1, h2⟩ := subs_ok k
    refine ⟨by show (subsF k ++ (subsF k).map _).length = _; rw [List.length_append, List.length_map, h1, Nat.pow_succ]; omega, fun L hL => ?_⟩
    rcases List.mem_append.mp hL with z | z
    · obtain ⟨a, b, c⟩ := h2 L z
      exact ⟨a, fun m hm => by have := b m hm; omega, by omega⟩
    · obtain ⟨L', hL', rfl⟩ := List.mem_map.mp z
      obtain ⟨a, b, c⟩ := h2 L' hL'
      refine ⟨List.pairwise_append.mpr ⟨a, by simp, fun x hx y hy => ?_⟩, fun m hm => ?_, by simp; omega⟩
      · rw [List.mem_singleton.mp hy]; exact b x hx
      · rcases List.mem_append.mp hm with z | z
        · have := b m z; omega
        · rw [List.mem_singleton.mp z]; omega
theorem sub_elt (k : Nat) (A B : Option T) (dl : List D) (x : D) (hz : dl.length + 1 ≤ 10000000) : cpF (tab.gm k []) (.bin .add (.var 3) (.lst [(.var 2)])) 3 [] [A, B, some (.fz x), none] (.list dl) = .ok (some (.lst (fzs (dl ++ [x])))) := by
  have h2 : dl.length ≤ 9999999 := by omega
  simp [cpF_nil, hz, h2]
theorem c__law_subsets (k : Nat) (n : Nat) (hn : n ≤ 8) : tab.call (k + 1) 26 [.fz (.int (n : Int))] = .ok (.fz (.list ((subsF n).map fun L => .list (intN L))), []) := by
  refine call_sat f__law_subsets rfl rfl ?_ rfl rfl
  have rg : rngD 0 (n : Int) = .ok (intN (List.range n)) := rng_nat _ (by omega)
  simp only [f__law_subsets, initR]
  simp [rg, -forL_cons, -List.map_map]
  refine sat_loop (e := fun n : Nat => PyData.int (n : Int)) (fun d ρ => ∃ (x2 : Option T), ρ = [some (.fz (.int (n : Int))), some (.fz (.list ((subsF d.length).map fun L => .list (intN L)))), x2, none]) ⟨_, rfl⟩ ?_ ?_
  · intro d x r ρ e hI
    refine sat_anyB fun BB => ?_
    obtain ⟨x2, eρ⟩ := hI
    rw [eρ]
    obtain ⟨dl, ex⟩ : d.length < n ∧ x = d.length := by
      have h1 := congrArg List.length e
      simp at h1
      have h2 := congrArg (fun l : List Nat => l[d.length]?) e
      simp at h2
      rw [List.getElem?_range (by omega)] at h2
      exact ⟨by omega, (Option.some.inj h2).symm⟩
    subst ex
    obtain ⟨h1, h2⟩ := subs_ok d.length
    have p8 : 2 ^ d.length ≤ 256 := by
      have : (2 : Nat) ^ d.length ≤ 2 ^ 8 := Nat.pow_le_pow_right (by decide) (by omega)
      simpa using this
    have cs : compL (cpF (tab.gm k []) (.bin .add (.var 3) (.lst [(.var 2)])) 3 [] [some (.fz (.int (n : Int))), some (.fz (.list ((subsF d.length).map fun L => .list (intN L)))), some (.fz (.int (d.length : Int))), none]) ((subsF d.length).map fun L => .list (intN L)) = .ok ((subsF d.length).map fun L => .lst (fzs (intN (L ++ [d.length])))) := by
      refine compL_mapT _ (fun L => PyData.list (intN L)) _ _ fun L hL => ?_
      have := (h2 L hL).2.2
      have e1 : intN (L ++ [d.length]) = intN L ++ [PyData.int (d.length : Int)] := by simp
      rw [e1]
      exact sub_elt k _ _ (intN L) _ (by rw [List.length_map]; omega)
    have z2 : (subsF d.length).length ≤ sizeLine := sz_le (by omega)
    have bc := bt_cat (.fz (.list ((subsF d.length).map fun L => .list (intN L)))) (.lst ((subsF d.length).map fun L => .lst (fzs (intN (L ++ [d.length]))))) ((subsF d.length).map fun L => .list (intN L)) ((subsF d.length).map fun L => .list (intN (L ++ [d.length]))) rfl (by
      show PyData.list (T.ds _) = _
      rw [T.ds_map, List.map_map]
      refine congrArg PyData.list (List.map_congr_left fun L _ => ?_)
      show PyData.list (T.ds (fzs _)) = _
      rw [T.ds_fzs]) (by
      have : (((subsF d.length).map fun L => PyData.list (intN L)) ++ ((subsF d.length).map fun L => PyData.list (intN (L ++ [d.length])))).length ≤ 512 := by simp; omega
      exact Nat.le_trans this (sz_le (by decide)))
    have es : ((subsF d.length).map fun L => PyData.list (intN L)) ++ ((subsF d.length).map fun L => PyData.list (intN (L ++ [d.length]))) = (subsF (d.length + 1)).map fun L => .list (intN L) := by
      show _ = (subsF d.length ++ (subsF d.length).map fun L => L ++ [d.length]).map _
      rw [List.map_append, List.map_map]
      rfl
    rw [es] at bc
    have ed : (T.lst ((subsF d.length).map fun L => .lst (fzs (intN (L ++ [d.length]))))).d = PyData.list (T.ds ((subsF d.length).map fun L => T.lst (fzs (intN (L ++ [d.length]))))) := rfl
    rw [ed] at bc
    have z3 : ((subsF d.length).map fun L => PyData.list (intN L)).length ≤ sizeLine := by rw [List.length_map]; exact z2
    obtain ⟨D1, eD1⟩ : ∃ D1, D1 = (subsF (d.length + 1)).map fun L => PyData.list (intN L) := ⟨_, rfl⟩
    rw [← eD1] at bc
    clear es z2 h1 h2 p8 ed
    generalize ((subsF d.length).map fun L => T.lst (fzs (intN (L ++ [d.length])))) = TL at *
    generalize ((subsF d.length).map fun L => PyData.list (intN L)) = DL at *
    simp [cs, lstC_ok, z3, bc, -List.map_map, -List.map_append]
    exact eD1
  · rintro ρ ⟨x2, rfl⟩
    simp [-List.map_map]
theorem c__law_bits (k : Nat) (cl : Int) (n : Nat) (hn : n ≤ 60) : ∃ L : List Int, tab.call (k + 2) 24 [.fz (.int cl), .fz (.int (n : Int))] = .ok (.lst (fzs (L.map .int)), []) ∧ L.length ≤ 60 := by
  obtain ⟨ms, r1, l1, i1⟩ := c__law_row k cl 60 60 (by decide) (by decide) (by decide)
  have r1 : tab.call (k + 1) 16 [.fz (.int cl), .fz (.int 60), .fz (.int 60)] = .ok (.lst (fzs (ms.map .int)), []) := r1
  have key : ∃ u, tab.call (k + 2) 24 [.fz (.int cl), .fz (.int (n : Int))] = .ok (u, []) ∧ ∃ L : List Int, u = .lst (fzs (L.map .int)) ∧ L.length ≤ 60 := by
    refine call_some f__law_bits rfl rfl ?_ rfl rfl
    have rg : rngD 0 (n : Int) = .ok (intN (List.range n)) := rng_nat _ (by omega)
    have g59 := List.getElem?_eq_getElem (show 59 < ms.length by omega)
    generalize ms[59]'(by omega) = sh at g59
    have a59 := at_getE PyData.int g59
    have a59 : atI (ms.map PyData.int) 59 = some (.int sh) := a59
    simp only [f__law_bits, initR]
    simp [r1, rg, a59, bt_mod, -forL_cons, -List.map_map]
    refine sat_loop (e := fun n : Nat => PyData.int (n : Int)) (fun d ρ => ∃ (L : List Int) (x5 : Option T), ρ = [some (.fz (.int cl)), some (.fz (.int (n : Int))), some (.lst (fzs (L.map .int))), some (.fz (.list (ms.map .int))), some (.fz (.int (sh % 5))), x5] ∧ L.length ≤ d.length) ⟨[], _, rfl, by simp⟩ ?_ ?_
    · intro d x r ρ e hI
      refine sat_anyB fun BB => ?_
      obtain ⟨L, x5, eρ, hL⟩ := hI
      rw [eρ]
      have dl : d.length < n := by have := congrArg List.length e; simp at this; omega
      have hx : x < n := List.mem_range.mp (by rw [e]; simp)
      have gx := List.getElem?_eq_getElem (show x < ms.length by omega)
      generalize ms[x]'(by omega) = w at gx
      have ax := at_getE PyData.int gx
      have z1 : L.length < sizeLine := sz_lt (by omega)
      by_cases q : w % 6 ≤ sh % 5
      · simp [ax, bt_mod, q, appR_ok, z1, -List.map_map]
        exact ⟨L ++ [(x : Int)], by simp [fz_snoc], by simp; omega⟩
      · simp [ax, bt_mod, q, -List.map_map]
        exact ⟨L, rfl, by omega⟩
    · rintro ρ ⟨L, x5, rfl, hL⟩
      simp [-List.map_map]
      simp at hL
      exact ⟨L, rfl, by omega⟩
  obtain ⟨u, h1, L, rfl, h2⟩ := key
  exact ⟨L, h1, h2⟩

theorem cut_map {α β : Type} (f : α → β) (xs : List α) (lo hi : Option Int) : cutL (xs.map f) lo hi = (cutL xs lo hi).map f := by
  unfold cutL
  rw [List.length_map, List.map_take, List.map_drop]
theorem cut_len2 {α : Type} (xs : List α) (lo hi : Option Int) : (cutL xs lo hi).length ≤ xs.length := by
  unfold cutL
  rw [List.length_take, List.length_drop]
  omega
theorem Pk_bools (L : List Bool) : Pk (.list (L.map .bool)) := ⟨by rw [nd_list]; exact nds_map fun _ _ => rfl, by
  have : PyData.depthAll (L.map PyData.bool) ≤ 0 := dp_map fun _ _ => by simp
  rw [dp_list]; omega⟩
theorem PkL_app {us vs : List T} (h : PkL us) (k : PkL vs) : PkL (us ++ vs) := fun x hx => (List.mem_append.mp hx).elim (h x) (k x)
theorem PkL_cons {t : T} {us : List T} (h : Pk t.d) (k : PkL us) : PkL (t :: us) := fun x hx => (List.mem_cons.mp hx).elim (fun e => by rw [e]; exact h) (k x)
theorem PkL_nil : PkL [] := fun x hx => by cases hx
theorem PkF {ds : List D} (h : Pk (.list ds)) : Pk (T.lst (fzs ds)).d := by rw [dlst]; exact h
theorem oneT_of {us : List T} (h : PkL us) : oneT (.lst us) := pk_end h
theorem papers_tail (k : Nat) (sc sd : D) (B DR : List Int) (m0 m1 m2 m3 : Int) (x4 x6 : Option T) (us : List T) (hu : us.length ≤ 12) (pu : PkL us) (hB : B.length ≤ 60) (hD : DR.length ≤ 60) :
    Sat (S.runs (tab.gm k []) (f__law_papers.body.drop 6) [some (.fz sc), some (.fz (.int 4)), some (.fz sd), some (.fz (.list (B.map .int))), x4, some (.fz (.list [.int m0, .int m1, .int m2, .int m3])), x6, some (.lst us), some (.fz (.list (DR.map .int))), none, none, none])
      (fun _ => False) (fun _ => False) (fun _ => False) oneT (fun _ _ => False) := by
  by_cases z : B = []
  · subst z
    simp only [f__law_papers, List.drop]
    obtain ⟨ds, e, h⟩ := pk_end pu
    simp
    exact ⟨ds, e, h⟩
  · have lp : 0 < B.length := List.length_pos_iff.mpr z
    obtain ⟨a, ha1, ha2⟩ := mod_nat m0 B.length lp
    have f1 := bt_mod m0 (B.length : Int) (by omega)
    rw [ha1] at f1
    have ga := List.getElem?_eq_getElem ha2
    generalize B[a] = xa at ga
    have a1 := at_getE PyData.int ga
    have c1 : cutL (B.map PyData.int) none (some (a : Int)) = (B.take a).map .int := by rw [cut_to _ _ (by omega), List.map_take]; rfl
    have c2 : cutL (B.map PyData.int) (some ((a : Int) + 1)) none = (B.drop (a + 1)).map .int := by rw [cut_from _ _ (by omega), List.map_drop]; rfl
    have lA : (B.take a).length ≤ 60 := by simp; omega
    have lB : (B.drop (a + 1)).length ≤ 60 := by simp; omega
    have pk := fun x h hd => Pk_mid (B.take a) (B.drop (a + 1)) x h hd
    have pk2 := Pk_ints (B.take a ++ B.drop (a + 1))
    rw [List.map_append] at pk2
    generalize B.take a = A at *
    generalize B.drop (a + 1) = C at *
    have s1 : A.length + 1 ≤ 10000000 := by omega
    have s2 : A.length + 1 + C.length ≤ 10000000 := by omega
    have s3 : A.length + C.length ≤ 10000000 := by omega
    have s4 : A.length + (C.length + 1) ≤ 10000000 := by omega
    have s5 : B.length + 1 ≤ 10000000 := by omega
    have s6 : A.length + C.length + 1 ≤ 10000000 := by omega
    have npos : (0 : Int) < (B.length : Int) := by omega
    have z1 : us.length < sizeLine := sz_lt (by omega)
    have z2 : us.length + 1 < sizeLine := sz_lt (by omega)
    have z3 : us.length + 1 + 1 < sizeLine := sz_lt (by omega)
    have z4 : us.length + 1 + 1 + 1 < sizeLine := sz_lt (by omega)
    have pm := pk (.bool (decide (xa = 1))) rfl (by simp)
    obtain ⟨ds, ed, hd⟩ := pk_end pu
    have ed := PyData.list.inj ed
    by_cases zd : DR = []
    · subst zd
      simp only [f__law_papers, List.drop]
      simp [z, npos, lp, f1, a1, c1, c2, s1, s2, s3, s4, appR_ok, z1, z2]
      exact oneT_of (PkL_app pu (PkL_cons (PkF pk2) (PkL_cons (PkF pm) PkL_nil)))
    · have lq : 0 < DR.length := List.length_pos_iff.mpr zd
      obtain ⟨o, ho1, ho2⟩ := mod_nat m1 DR.length lq
      have f2 := bt_mod m1 (DR.length : Int) (by omega)
      rw [ho1] at f2
      have go := List.getElem?_eq_getElem ho2
      generalize DR[o] = xo at go
      have a2 := at_getE PyData.int go
      have nposd : (0 : Int) < (DR.length : Int) := by omega
      have so1 := sort_int (B ++ [xo])
      have so2 := sort_int (A ++ C ++ [xo])
      have p1 := Pk_ints (sortI (B ++ [xo]))
      have p2 := Pk_ints (sortI (A ++ C ++ [xo]))
      generalize sortI (B ++ [xo]) = S1 at *
      generalize sortI (A ++ C ++ [xo]) = S2 at *
      simp only [List.map_append, List.map_cons, List.map_nil, List.append_assoc] at so1 so2
      simp only [f__law_papers, List.drop]
      simp [z, npos, lp, f1, a1, c1, c2, s1, s2, s3, s4, s5, s6, appR_ok, z1, z2, z3, z4, zd, nposd, lq, f2, a2, so1, so2]
      exact oneT_of (PkL_app pu (PkL_cons (PkF pk2) (PkL_cons (PkF pm) (PkL_cons (PkF p1) (PkL_cons (PkF p2) PkL_nil)))))
theorem c__law_papers (k : Nat) (sc : List Int) (ss : List Sty) (B : List Int) (hl : ss.length ≤ 60) (hB : B.length ≤ 60) :
    ∃ u, tab.call (k + 3) 25 [.fz (.list (sc.map .int)), .fz (.int 4), .fz (.list (ss.map st)), .fz (.list (B.map .int))] = .ok (u, []) ∧ oneT u := by
  obtain ⟨c1, e1⟩ := c__law_cell (k + 1) sc 4 (by omega)
  obtain ⟨ms, r1, l1, i1⟩ := c__law_row (k + 1) c1 60 4 (by decide) (by decide) (by decide)
  obtain ⟨c2, e2⟩ := c__law_cell (k + 1) sc 5 (by omega)
  obtain ⟨DL, e3, hDL⟩ := c__law_bits k c2 ss.length hl
  match ms, l1 with
  | [m0, m1, m2, m3], _ =>
    have r1 : tab.call (k + 2) 16 [.fz (.int c1), .fz (.int 4), .fz (.int 60)] = .ok (.lst [.fz (.int m0), .fz (.int m1), .fz (.int m2), .fz (.int m3)], []) := r1
    have e1 : tab.call (k + 2) 15 [.fz (.list (sc.map .int)), .fz (.int 4)] = .ok (.fz (.int c1), []) := e1
    have e2 : tab.call (k + 2) 15 [.fz (.list (sc.map .int)), .fz (.int 5)] = .ok (.fz (.int c2), []) := e2
    have key := fun DR x4 x6 us hu pu hD => papers_tail (k + 2) (.list (sc.map .int)) (.list (ss.map st)) B DR m0 m1 m2 m3 x4 x6 us hu pu hB hD
    refine Exists.elim (call_some (V := oneT) f__law_papers rfl rfl ?_ rfl rfl) fun u h => ⟨u, h⟩
    have spl : f__law_papers.body = f__law_papers.body.take 6 ++ f__law_papers.body.drop 6 := rfl
    generalize f__law_papers.body.drop 6 = tl at key spl
    rw [spl, runs_app]
    clear spl
    have rg : rngD 0 (ss.length : Int) = .ok (intN (List.range ss.length)) := rng_nat _ (by omega)
    have lr : lrngD (.int (ss.length : Int)) = .ok (.lst (fzs (intN (List.range ss.length)))) := by
      rw [lrng_ok _ (by omega) (by omega)]
      simp
    have ct := cut_map PyData.int B (some (-1)) none
    have ctl := cut_len2 B (some (-1)) none
    generalize cutL B (some (-1)) none = CT at *
    have cs : ∀ x9 x10 x7 x8 : Option T, compL (cpF (tab.gm (k + 2) []) (.cmp .eq (.var 11) (.cst (.int 1))) 11 [] [some (.fz (.list (sc.map .int))), some (.fz (.int 4)), some (.fz (.list (ss.map st))), some (.fz (.list (B.map .int))), some (.fz (.int (ss.length : Int))), some (.fz (.list [.int m0, .int m1, .int m2, .int m3])), some (.fz (.list (DL.map .int))), x7, x8, x9, x10, none]) (B.map .int) = .ok (fzs ((B.map fun b => decide (b = 1)).map .bool)) := fun x9 x10 x7 x8 => by
      rw [List.map_map]
      exact compL_all _ PyData.int _ _ fun x _ => by simp [cpF_nil]
    have cd : ∀ x9 x10 x7 x8 : Option T, compL (cpF (tab.gm (k + 2) []) (.var 11) 11 [.cmp .notIn (.var 11) (.var 3)] [some (.fz (.list (sc.map .int))), some (.fz (.int 4)), some (.fz (.list (ss.map st))), some (.fz (.list (B.map .int))), some (.fz (.int (ss.length : Int))), some (.fz (.list [.int m0, .int m1, .int m2, .int m3])), some (.fz (.list (DL.map .int))), x7, x8, x9, x10, none]) (intN (List.range ss.length)) = .ok (fzs (intN ((List.range ss.length).filter fun n : Nat => !decide ((n : Int) ∈ B)))) := fun x9 x10 x7 x8 =>
      compL_filter _ (fun n : Nat => PyData.int (n : Int)) (fun n : Nat => PyData.int (n : Int)) (fun n : Nat => !decide ((n : Int) ∈ B)) _ fun b hb => by simp [cpF_one]
    have dl : ((List.range ss.length).filter fun n : Nat => !decide ((n : Int) ∈ B)).length ≤ 60 := by
      have := List.length_filter_le (fun n : Nat => !decide ((n : Int) ∈ B)) (List.range ss.length)
      rw [List.length_range] at this
      omega
    generalize (List.range ss.length).filter (fun n : Nat => !decide ((n : Int) ∈ B)) = FL at *
    have fe : intN FL = (FL.map fun n : Nat => (n : Int)).map .int := intN_ints FL
    rw [fe] at cd
    have key := fun x4 x6 us hu pu => key (FL.map fun n : Nat => (n : Int)) x4 x6 us hu pu (by simpa using dl)
    generalize (FL.map fun n : Nat => (n : Int)) = DR at *
    have q1 := Pk_ints B
    have q2 := Pk_ints DL
    have q3 : Pk (.list (intN (List.range ss.length))) := by rw [intN_ints]; exact Pk_ints _
    have q4 : Pk (.list (B.map .int ++ [.int (ss.length : Int)])) := by have := Pk_ints (B ++ [(ss.length : Int)]); rwa [List.map_append] at this
    have q5 : Pk (.list (.int (-1) :: B.map .int)) := Pk_ints (-1 :: B)
    have q6 : Pk (.list (B.map PyData.int).reverse) := by rw [← List.map_reverse]; exact Pk_ints _
    have q7 : Pk (.list (B.map .int ++ CT.map .int)) := by have := Pk_ints (B ++ CT); rwa [List.map_append] at this
    have q8 := Pk_tup B
    have q9 := Pk_bools (B.map fun b => decide (b = 1))
    generalize (B.map fun b => decide (b = 1)) = BB at *
    have z7 : (intN (List.range ss.length)).length ≤ sizeLine := by rw [List.length_map, List.length_range]; exact sz_le (by omega)
    generalize intN (List.range ss.length) = RL at *
    have z1 : B.length + 1 ≤ 10000000 := by omega
    have z2 : B.length + CT.length ≤ 10000000 := by omega
    have z3 : B.length ≤ sizeLine := sz_le (by omega)
    have z4 : ss.length ≤ sizeLine := sz_le (by omega)
    have z5 : 1 + B.length ≤ 10000000 := by omega
    have z6 : B.length ≤ 9999999 := by omega
    simp only [f__law_papers, List.take, initR]
    simp [e1, r1, e2, e3, rg, lr, ct, cs, cd, z1, z2, z3, z4, z5, z6, z7, lstC_ok, -List.map_map, -List.map_reverse]
    refine sat_mono (key _ _ _ (by simp) ?_) (fun _ h => h.elim) (fun _ h => h) (fun _ h => h) (fun _ h => h) (fun _ _ h => h)
    have pn : Pk .none := ⟨rfl, by simp⟩
    have p0 : Pk (.str "0") := ⟨rfl, by simp⟩
    have pe : Pk (.list []) := ⟨rfl, by simp⟩
    exact PkL_cons q1 (PkL_cons q2 (PkL_cons q3 (PkL_cons pe (PkL_cons q4 (PkL_cons q5 (PkL_cons q6 (PkL_cons q7 (PkL_cons q8 (PkL_cons pn (PkL_cons p0 (PkL_cons q9 PkL_nil)))))))))))

/-- the rest of the law answers True; a structure, so that nothing evaluates the program on the way -/
structure TailOk (pr : List S) (ρ : Rho) : Prop where
  ok : Sat (S.runs (tab.gm 39 []) pr ρ) (fun _ => False) (fun _ => False) (fun _ => False) (fun u => u = .fz (.bool true)) (fun _ _ => False)
theorem law_loop (sc : List Int) (ss : List Sty) (c : Nat) (hl : ss.length ≤ 60) (h : ∀ s ∈ ss, StOk s) (hc : c ≤ 60) (x1 x2 x4 x8 x9 : Option T) :
    TailOk (f_law.body.drop 14) [some (.fz (.list (sc.map .int))), x1, x2, some (.fz (.list (ss.map st))), x4, some (.fz (.int (c : Int))), some (.fz (.list ((bookL ss c).map .int))), some (.fz (.list (ss.map st))), x8, x9, none, none, none, none] := by
  refine ⟨?_⟩
  have bl : (bookL ss c).length ≤ 60 := by
    obtain ⟨L, e1, e2, e3, e4, e5, e6⟩ := book_is c h
    have := List.Nodup.length_le_of_subset (l₂ := List.range ss.length) (e2.imp fun h => Nat.ne_of_lt h) fun m hm => List.mem_range.mpr (e3 m hm)
    rw [List.length_range] at this
    omega
  obtain ⟨u, eu, ds, ed, hp⟩ := c__law_papers 36 sc ss (bookL ss c) hl bl
  generalize bookL ss c = bk at *
  have stn : cmpD .ne (.list (ss.map st)) (.list (ss.map st)) = .ok false := cn_same _ (by rw [nd_list]; exact nd_st _) (by have := dp_st ss; rw [dp_list]; omega)
  have i1 : ∀ d, tab.call 39 14 [.fz (.list (ss.map st)), .fz (.int (c : Int)), .fz d] = .ok (.fz (.bool (accB ss c d)), []) := fun d => c_is_accepted 31 ss c d hl h hc
  have j1 : ∀ d, tab.call 39 23 [.fz (.list (ss.map st)), .fz (.int (c : Int)), .fz d] = .ok (.fz (.bool (accB ss c d)), []) := fun d => c__law_is_accepted 36 ss c d hl
  have sp := c__law_spoilt 29 sc ss c hl h
  have eu : tab.call 39 25 [.fz (.list (sc.map .int)), .fz (.int 4), .fz (.list (ss.map st)), .fz (.list (bk.map .int))] = .ok (u, []) := eu
  have sp : tab.call 39 29 [.fz (.list (sc.map .int)), .fz (.int 6), .fz (.list (ss.map st)), .fz (.int (c : Int))] = .ok (.fz (.bool true), []) := sp
  simp only [f_law, List.drop]
  simp [eu, ed, -forL_cons]
  refine sat_loopD (fun d ρ => ∃ (x10 x11 x12 : Option T), ρ = [some (.fz (.list (sc.map .int))), x1, x2, some (.fz (.list (ss.map st))), x4, some (.fz (.int (c : Int))), some (.fz (.list (bk.map .int))), some (.fz (.list (ss.map st))), x8, x9, x10, x11, x12, none]) ⟨_, _, _, rfl⟩ ?_ ?_
  · intro d x r ρ e hI
    refine sat_anyB fun BB => ?_
    obtain ⟨x10, x11, x12, eρ⟩ := hI
    rw [eρ]
    have px := hp x (by rw [e]; simp)
    have pn : cmpD .ne x x = .ok false := cn_same _ px.1 (by have := px.2; omega)
    by_cases lx : isTy .list x = true
    · obtain ⟨es, rfl⟩ : ∃ es, x = .list es := by
        cases x <;> first | exact ⟨_, rfl⟩ | cases lx
      simp [i1, j1, pn, stn]
    · have lx : isTy .list x = false := by simpa using lx
      simp [lx, i1, j1, pn, stn]
  · rintro ρ ⟨x10, x11, x12, rfl⟩
    simp [sp]
theorem law_mid (sc : List Int) (ss : List Sty) (c : Nat) (hl : ss.length ≤ 60) (h : ∀ s ∈ ss, StOk s) (hc : c ≤ 60) (x1 x4 : Option T) :
    TailOk (f_law.body.drop 7) [some (.fz (.list (sc.map .int))), x1, some (.fz (.int (ss.length : Int))), some (.fz (.list (ss.map st))), x4, some (.fz (.int (c : Int))), none, none, none, none, none, none, none, none] := by
  refine ⟨?_⟩
  have spl : f_law.body.drop 7 = (f_law.body.drop 7).take 7 ++ f_law.body.drop 14 := rfl
  have key := fun x8 x9 => law_loop sc ss c hl h hc x1 (some (.fz (.int (ss.length : Int)))) x4 x8 x9
  generalize f_law.body.drop 14 = tl at key spl
  rw [spl, runs_app]
  clear spl
  generalize hp : (f_law.body.drop 7).take 7 = pr
  have stn : cmpD .ne (.list (ss.map st)) (.list (ss.map st)) = .ok false := cn_same _ (by rw [nd_list]; exact nd_st _) (by have := dp_st ss; rw [dp_list]; omega)
  have e1 : tab.call 39 22 [.fz (.list (ss.map st)), .fz (.int (c : Int))] = .ok (.lst (fzs ((bookL ss c).map .int)), []) := c__law_booked 37 ss c hl
  have e2 : tab.call 39 13 [.fz (.list (ss.map st)), .fz (.int (c : Int))] = .ok (.lst (fzs ((bookL ss c).map .int)), []) := c_most_bookings 31 ss c hl h hc
  have e3 : ∀ d, tab.call 39 21 [.fz d, .fz (.int (ss.length : Int))] = .ok (.fz (.bool (ascB 0 ((ss.length : Int) - 1) d)), []) := fun d => c__law_members 37 d ss.length
  have e4 : ∀ d, tab.call 39 23 [.fz (.list (ss.map st)), .fz (.int (c : Int)), .fz d] = .ok (.fz (.bool (accB ss c d)), []) := fun d => c__law_is_accepted 36 ss c d hl
  obtain ⟨L, b1, b2, b3, b4, b5, b6⟩ := book_is c h
  have best := fun {B} nd hb f => book_best (c := c) h (B := B) nd hb f
  have asc : ascB 0 ((ss.length : Int) - 1) (.list ((bookL ss c).map .int)) = true := by rw [b1]; exact ascB_N b3 b2
  have acc : accB ss c (.list ((bookL ss c).map .int)) = true := by
    rw [b1] at asc ⊢
    rw [accB_N ss c asc]
    exact b4
  have bl : (bookL ss c).length ≤ 60 := by
    have := List.Nodup.length_le_of_subset (l₂ := List.range ss.length) (b2.imp fun h => Nat.ne_of_lt h) fun m hm => List.mem_range.mpr (b3 m hm)
    rw [List.length_range] at this
    omega
  have bn : cmpD .ne (.list ((bookL ss c).map .int)) (.list ((bookL ss c).map .int)) = .ok false := cn_same _ (Pk_ints _).1 (by have := (Pk_ints (bookL ss c)).2; omega)
  have bb : (bookL ss c).length = (bookF ss c).length := by omega
  clear b1 b2 b3 b4 b5 b6
  generalize bookL ss c = bk at *
  have z1 : bk.length < sizeLine := sz_lt (by omega)
  by_cases n9 : ss.length < 9
  · have e5 : tab.call 39 26 [.fz (.int (ss.length : Int))] = .ok (.fz (.list ((subsF ss.length).map fun L => .list (intN L))), []) := c__law_subsets 38 ss.length (by omega)
    obtain ⟨_, so⟩ := subs_ok ss.length
    have ni : (ss.length : Int) < 9 := by omega
    subst hp
    simp only [f_law, List.drop, List.take]
    simp [e1, e2, e3, e4, asc, acc, stn, bn, appR_ok, z1, ni, e5, -forL_cons, -List.map_map]
    generalize subsF ss.length = SU at *
    refine sat_loop (e := fun L => PyData.list (intN L)) (fun _ ρ => ∃ (x9 : Option T), ρ = [some (.fz (.list (sc.map .int))), x1, some (.fz (.int (ss.length : Int))), some (.fz (.list (ss.map st))), x4, some (.fz (.int (c : Int))), some (.fz (.list (bk.map .int))), some (.fz (.list (ss.map st))), some (.lst (fzs (bk.map .int) ++ [T.fz (.int 3)])), x9, none, none, none, none]) ⟨_, rfl⟩ ?_ ?_
    · intro d L r ρ e hI
      refine sat_anyB fun BB => ?_
      obtain ⟨x9, eρ⟩ := hI
      rw [eρ]
      obtain ⟨o1, o2, o3⟩ := so L (by rw [e]; simp)
      by_cases q : bk.length < L.length
      · have qi : (bk.length : Int) < (L.length : Int) := by omega
        have fa : accB ss c (.list (intN L)) = false := by
          rw [accB_N ss c (ascB_N o2 o1)]
          refine Bool.eq_false_iff.mpr fun z => ?_
          have := best o1 o2 z
          omega
        have e4 := e4 (.list (intN L))
        rw [fa] at e4
        generalize hD : intN L = DL at *
        have dl : DL.length = L.length := by rw [← hD]; simp
        simp [e4, dl, qi, q, -List.map_map]
      · have qi : ¬ (bk.length : Int) < (L.length : Int) := by omega
        generalize hD : intN L = DL at *
        have dl : DL.length = L.length := by rw [← hD]; simp
        simp [dl, qi, q, -List.map_map]
    · rintro ρ ⟨x9, rfl⟩
      exact (key _ _).ok
  · have ni : ¬ (ss.length : Int) < 9 := by omega
    subst hp
    simp only [f_law, List.drop, List.take]
    simp [e1, e2, e3, e4, asc, acc, stn, bn, appR_ok, z1, ni, -forL_cons, -List.map_map]
    exact (key _ _).ok
theorem law_key (ns : List Int) (n : Nat) (hn : n ≤ 60) (m0 m1 m2 m3 : Int) (b2 : 0 ≤ m2 ∧ m2 < 61) :
    TailOk (f_law.body.drop 3) [some (.fz (.list (ns.map .int))), some (.fz (.list [.int m0, .int m1, .int m2, .int m3])), some (.fz (.int (n : Int))), none, none, none, none, none, none, none, none, none, none, none] := by
  refine ⟨?_⟩
  generalize hp : f_law.body.drop 3 = pr
  obtain ⟨ss, es, hl, hs⟩ := c__law_stays 37 ns 1 n (by decide) (by omega)
  have es : tab.call 39 17 [.fz (.list (ns.map .int)), .fz (.int 1), .fz (.int n)] = .ok (.lst (fzs (ss.map st)), []) := es
  have mid := fun c hc x1 x4 => law_mid ns ss c (by omega) hs hc x1 x4
  have t4 : ∀ m, tab.call 39 20 [.fz (.list (ss.map st)), .fz (.int m)] = .ok (.fz (.int (loadM ss m)), []) := fun m => c__law_load 37 ss m (by omega)
  have cm : ∀ x1 x2 x4 x5 x6 x7 x8 x9 x10 x11 x12 : Option T, compL (cpF (tab.gm 39 []) (.call 20 [(.var 3), (.idx (.var 13) (.cst (.int 0)))]) 13 [] [some (.fz (.list (ns.map .int))), x1, x2, some (.fz (.list (ss.map st))), x4, x5, x6, x7, x8, x9, x10, x11, x12, none]) (ss.map st) = .ok (fzs (intN (ss.map fun s => loadM ss s.1))) := fun x1 x2 x4 x5 x6 x7 x8 x9 x10 x11 x12 => by
    have q := compL_all (cpF (tab.gm 39 []) (.call 20 [(.var 3), (.idx (.var 13) (.cst (.int 0)))]) 13 [] [some (.fz (.list (ns.map .int))), x1, x2, some (.fz (.list (ss.map st))), x4, x5, x6, x7, x8, x9, x10, x11, x12, none]) st (fun s => PyData.int (loadM ss s.1 : Nat)) ss fun s _ => by simp [cpF_nil, t4]
    rw [q, intN, List.map_map]
    rfl
  have mx : biD true .max1 [.list (.int 0 :: intN (ss.map fun s => loadM ss s.1))] = .ok (.fz (.int (mxN (ss.map fun s => loadM ss s.1) : Nat))) := bi_mx _
  have tl0 : mxN (ss.map fun s => loadM ss s.1) ≤ ss.length := by
    rcases mx_in (ss.map fun s => loadM ss s.1) with h | h
    · rw [h]; omega
    · obtain ⟨s, _, e⟩ := List.mem_map.mp h
      rw [← e]
      exact List.length_filter_le _ _
  have ll : (intN (ss.map fun s => loadM ss s.1)).length = ss.length := by simp [intN]
  generalize mxN (ss.map fun s => loadM ss s.1) = tp at *
  generalize intN (ss.map fun s => loadM ss s.1) = L at *
  have l61 : ([PyData.int 0] ++ L).length ≤ sizeLine := Nat.le_trans (by simp; omega : ([PyData.int 0] ++ L).length ≤ 61) (sz_le (by decide))
  have ba : binT .add (.lst [.fz (.int 0)]) (.list L) = .ok (.lst (fzs (.int 0 :: L))) := bt_cat (.lst [.fz (.int 0)]) (.fz (.list L)) [.int 0] L rfl rfl l61
  have md : binT .mod (.fz (.int m2)) (.int ((tp : Int) + 1)) = .ok (.fz (.int (m2 % ((tp : Int) + 1)))) := bt_mod _ _ (by omega)
  have d0 : 0 ≤ m2 % ((tp : Int) + 1) := Int.emod_nonneg _ (by omega)
  have d1 : m2 % ((tp : Int) + 1) < (tp : Int) + 1 := Int.emod_lt_of_pos _ (by omega)
  have fd : binT .fdiv (.fz (.int m3)) (.int 4) = .ok (.fz (.int (m3 / 4))) := bt_fdiv _ 4 (by decide) (by decide)
  obtain ⟨c, hc, vc⟩ : ∃ c : Nat, c ≤ 60 ∧ m2 % ((tp : Int) + 1) = (c : Int) := ⟨(m2 % ((tp : Int) + 1)).toNat, by omega, by omega⟩
  rw [vc] at md
  have mid1 := mid c hc
  obtain ⟨c', hc', vc'⟩ : ∃ c' : Nat, c' ≤ 60 ∧ atI [PyData.int m2, .int 60] (m3 / 4 % 2) = some (.int (c' : Int)) := by
    have q2 : m3 / 4 % 2 = 0 ∨ m3 / 4 % 2 = 1 := by omega
    rcases q2 with q | q <;> rw [q]
    · refine ⟨m2.toNat, by omega, ?_⟩
      rw [Int.toNat_of_nonneg b2.1]; rfl
    · exact ⟨60, by omega, rfl⟩
  have mid2 := mid c' hc'
  rw [hl] at mid1 mid2
  subst hp
  have spl : f_law.body.drop 3 = (f_law.body.drop 3).take 4 ++ f_law.body.drop 7 := rfl
  generalize f_law.body.drop 7 = tl at mid1 mid2 spl
  rw [spl, runs_app]
  clear spl mid
  simp only [f_law, List.drop, List.take]
  by_cases q4 : m3 % 4 = 0
  · simp [es, cm, ba, mx, ll, lstC_ok, sz_le (n := ss.length) (by omega), md, bt_mod, q4, fd, vc', -List.map_map]
    exact (mid2 _ _).ok
  · simp [es, cm, ba, mx, ll, lstC_ok, sz_le (n := ss.length) (by omega), md, bt_mod, q4, -List.map_map]
    exact (mid1 _ _).ok
theorem good : tab.good 40 30 63 := by
  intro ns _
  refine ⟨.fz (.bool true), ?_, rfl⟩
  show tab.call 40 30 [.fz (.list (ns.map .int))] = _
  obtain ⟨c1, e1⟩ := c__law_cell 38 ns 0 (by omega)
  obtain ⟨ms, r1, l1, i1⟩ := c__law_row 38 c1 61 4 (by decide) (by decide) (by decide)
  have e1 : tab.call 39 15 [.fz (.list (ns.map .int)), .fz (.int 0)] = .ok (.fz (.int c1), []) := e1
  match ms, l1 with
  | [m0, m1, m2, m3], _ =>
    have r1 : tab.call 39 16 [.fz (.int c1), .fz (.int 4), .fz (.int 61)] = .ok (.lst [.fz (.int m0), .fz (.int m1), .fz (.int m2), .fz (.int m3)], []) := r1
    have b0 := i1 m0 (by simp)
    have b2 := i1 m2 (by simp)
    have key := fun n hn => law_key ns n hn m0 m1 m2 m3 b2
    have m9 : 0 ≤ m0 % 9 ∧ m0 % 9 < 9 := by omega
    have spl : f_law.body = f_law.body.take 3 ++ f_law.body.drop 3 := rfl
    refine call_sat f_law rfl rfl ?_ rfl rfl
    generalize f_law.body.drop 3 = tl at key spl
    rw [spl, runs_app]
    clear spl
    simp only [f_law, List.take, initR]
    by_cases a0 : m1 % 3 = 0
    · have q := (key (m0 % 9).toNat (by omega)).ok
      rw [Int.toNat_of_nonneg m9.1] at q
      simp [e1, r1, bt_mod, a0]
      exact q
    · by_cases a1 : m1 % 8 = 1
      · have q := (key 60 (by omega)).ok
        simp [e1, r1, bt_mod, a0, a1]
        exact q
      · have q := (key m0.toNat (by omega)).ok
        rw [Int.toNat_of_nonneg b0.1] at q
        simp [e1, r1, bt_mod, a0, a1]
        exact q

end LawX
set_option maxHeartbeats 0
open PySem PySem.W PySem.Calls PyProof.Rows in
theorem PySem.Challenge.cw_parcelbank_k25_bookings_taken_in_turn_holds : PySem.Challenge.rw_parcelbank_k25_bookings_taken_in_turn.Holds := by
  w_on; o_law
  refine HandSHeadRun.head_any (r := OpenLaw.row PySem.Challenge.rw_parcelbank_k25_bookings_taken_in_turn) (q := view (OpenLaw.row PySem.Challenge.rw_parcelbank_k25_bookings_taken_in_turn).prog [43]) (H := LawX.hk) (ob := LawX.ob) (M := 6000) (loose := LawX.loose) (d := HandSHeadRun.topDef (OpenLaw.row PySem.Challenge.rw_parcelbank_k25_bookings_taken_in_turn).prog 43) (kwd := []) LawX.ob_eq
    (by kernel_rfl) (fun s => by kernel_rfl) LawX.run (by kernel_rfl) (by kernel_rfl) (by kernel_rfl) (by rfl) (by first | assumption | decide +kernel) (by decide +kernel) ⟨rfl, rfl, rfl, rfl, rfl, by decide +kernel⟩ ?hw ?hc
  case hw => w_witness2
  case hc =>
    refine Gn.walk_tabs (l := PySem.Challenge.rw_parcelbank_k25_bookings_taken_in_turn) (n := 63) (k := 40 + 3) (x := "script") (CX := Gn.CXa (PySem.Challenge.rw_parcelbank_k25_bookings_taken_in_turn).prog) rfl (by decide) (by kernel_rfl) ⟨rfl, by decide, by decide⟩ ?F Gn.noCX
    intro w mg fa h Y G hmg0
    obtain ⟨K, KX, c1, c2, c3⟩ := Y
    obtain ⟨c2, c4⟩ := Gn.b2 c2
    have hmg : mg ("law" : PySem.Str) = some (.ref fa) := by
      have e : (HandSHeadRun.topDef (OpenLaw.row PySem.Challenge.rw_parcelbank_k25_bookings_taken_in_turn).prog 43).name = ("law" : PySem.Str) := by kernel_rfl
      rw [← e]
      exact hmg0
    exact ⟨K, KX, Gn.Tab.lawAt (d := LawX.f_law) (li := 30) (Gn.Facts.of KX G c1 c2) KX LawX.chk c4 rfl rfl rfl LawX.good c3 hmg⟩

