import PyProof.Rows.All
import Wide.All
import OpenK.AllK
import Wide.FinOn
import HandS.Base
import HandS.Call
import HandS.List
import HandS.Comp
import HandS.Ends
import HandS.Words
import HandS.Dict
import HandS.Iter
import HandS.Text
import HandS.WordsList
import HandS.WordsDict
import HandS.Wide
import HandS.IsInst
import HandS.Strs
import HandS.Deep
import KE.DataEq
import KE.SortData
import HandS.Defaults
import HandS.Zip
import HandS.Style
import HandS.EndBits
import KE.DataMinMax
import HandS.More
import KE.DataCmp
import HandS.SetFor
import HandS.SetTxt0
import HandS.SetKeys
import PyProof.MinMaxWalk
import HandS.Replace
import PyProof.Rows.StrLawsPart
import HandS.TupLe
import HandS.RaiseMore
import PyProof.Rows.NestShow
import KE.DatumMoreOrd
import KE.SortLaws
import PySem.Challenge.RW_loggather_k40_whole_long_words
set_option Elab.async false
set_option linter.all false
set_option maxRecDepth 100000
/-! The pure layer: readings over trees, without heaps. Part 1: data, owned things, the relation to heaps. -/
namespace Pl
open PySem PySem.Spec L2
/-- data; nl: a list that this def has made itself (its base doesn't have it) -/
inductive D where
  | none
  | bool (b : Bool)
  | int (i : Int)
  | str (x : Str)
  | list (ds : List D)
  | tuple (ds : List D)
  | nl (ds : List D)
/-- the frozen part of the heap as a def found it -/
structure Kb where
  K : PySem.W.Frag
  B : Hp
abbrev kb (X : Cx) (B : Hp) : Kb := ⟨X.K, B⟩
mutual
def er : D → PyData
  | .none => .none
  | .bool b => .bool b
  | .int i => .int i
  | .str x => .str x
  | .list ds => .list (erAll ds)
  | .tuple ds => .tuple (erAll ds)
  | .nl ds => .list (erAll ds)
def erAll : List D → List PyData
  | [] => []
  | d :: ds => er d :: erAll ds
end
theorem erAll_map : ∀ ds : List D, erAll ds = ds.map er
  | [] => rfl
  | d :: ds => by
    show er d :: erAll ds = _
    rw [erAll_map ds]; rfl
mutual
/-- without the marks: as another def is handed it -/
def old : D → D
  | .none => .none
  | .bool b => .bool b
  | .int i => .int i
  | .str x => .str x
  | .list ds => .list (oldAll ds)
  | .tuple ds => .tuple (oldAll ds)
  | .nl ds => .list (oldAll ds)
def oldAll : List D → List D
  | [] => []
  | d :: ds => old d :: oldAll ds
end
/-- as it is looked at from above -/
def vw : D → D
  | .nl ds => .list ds
  | d => d
end Pl
namespace L2
open PySem PySem.Spec
/-! ### shared data grow with the frozen heap -/
section
variable {K : PySem.W.Frag}
theorem same_sqL {F F' : Hp} {a : Addr} {xs : List V} (e : Same F F') (h : SqL K F a xs) : SqL K F' a xs := e.seq h
theorem same_sqT {F F' : Hp} {a : Addr} {xs : List V} (e : Same F F') (h : SqT K F a xs) : SqT K F' a xs := by
  rcases h with (h | ⟨o, h⟩) | h
  · exact .inl (.inl (e _ _ h))
  · exact .inl (.inr ⟨o, e _ _ h⟩)
  · exact .inr h
end
end L2
namespace Pl
open PySem PySem.Spec L2

mutual
/-- v is d, by the frozen heap F -/
inductive Dq (K : Kb) (F : Hp) : V → D → Prop
  | non : Dq K F .non .none
  | bl (b : Bool) : Dq K F (.bl b) (.bool b)
  | int (i : Int) : Dq K F (.int i) (.int i)
  | str (x : Str) : Dq K F (.str x) (.str x)
  | lst {a : Addr} {vs : List V} {ds : List D} : SqL K.K F a vs → DqAll K F vs ds → Dq K F (.ref a) (.list ds)
  | tup {a : Addr} {vs : List V} {ds : List D} : SqT K.K F a vs → DqAll K F vs ds → Dq K F (.ref a) (.tuple ds)
  | nl {a : Addr} {vs : List V} {ds : List D} : K.B a = none → F a = some (.lst vs) → DqAll K F vs ds → Dq K F (.ref a) (.nl ds)
inductive DqAll (K : Kb) (F : Hp) : List V → List D → Prop
  | nil : DqAll K F [] []
  | cons {v : V} {vs : List V} {d : D} {ds : List D} : Dq K F v d → DqAll K F vs ds → DqAll K F (v :: vs) (d :: ds)
end
section
variable {K : Kb}
mutual
theorem dq_mono {F F' : Hp} (e : Same F F') : ∀ (d : D) (v : V), Dq K F v d → Dq K F' v d
  | .none, _, h => by cases h; exact .non
  | .bool b, _, h => by cases h; exact .bl b
  | .int i, _, h => by cases h; exact .int i
  | .str x, _, h => by cases h; exact .str x
  | .list ds, _, h => by
    cases h with
    | lst hs ha => exact .lst (same_sqL e hs) (dq_monoAll e ds _ ha)
  | .tuple ds, _, h => by
    cases h with
    | tup hs ha => exact .tup (same_sqT e hs) (dq_monoAll e ds _ ha)
  | .nl ds, _, h => by
    cases h with
    | nl hb hs ha => exact .nl hb (e _ _ hs) (dq_monoAll e ds _ ha)
theorem dq_monoAll {F F' : Hp} (e : Same F F') : ∀ (ds : List D) (vs : List V), DqAll K F vs ds → DqAll K F' vs ds
  | [], _, h => by cases h; exact .nil
  | d :: ds, _, h => by
    cases h with
    | cons h1 h2 => exact .cons (dq_mono e d _ h1) (dq_monoAll e ds _ h2)
end
theorem Dq.mono {F F' : Hp} {v : V} {d : D} (h : Dq K F v d) (e : Same F F') : Dq K F' v d := dq_mono e d v h
theorem DqAll.mono {F F' : Hp} {vs : List V} {ds : List D} (h : DqAll K F vs ds) (e : Same F F') : DqAll K F' vs ds := dq_monoAll e ds vs h
mutual
theorem dq_dp {F : Hp} : ∀ (d : D) (v : V), Dq K F v d → Dp K.K F v (er d)
  | .none, _, h => by cases h; exact .non
  | .bool b, _, h => by cases h; exact .bl b
  | .int i, _, h => by cases h; exact .int i
  | .str x, _, h => by cases h; exact .str x
  | .list ds, _, h => by
    cases h with
    | lst hs ha => exact .lst hs (dq_dpAll ds _ ha)
  | .tuple ds, _, h => by
    cases h with
    | tup hs ha => exact .tup hs (dq_dpAll ds _ ha)
  | .nl ds, _, h => by
    cases h with
    | nl hb hs ha => exact .lst (.inl (.inl hs)) (dq_dpAll ds _ ha)
theorem dq_dpAll {F : Hp} : ∀ (ds : List D) (vs : List V), DqAll K F vs ds → DpAll K.K F vs (erAll ds)
  | [], _, h => by cases h; exact .nil
  | d :: ds, _, h => by
    cases h with
    | cons h1 h2 => exact .cons (dq_dp d _ h1) (dq_dpAll ds _ h2)
end
theorem Dq.dp {F : Hp} {v : V} {d : D} (h : Dq K F v d) : Dp K.K F v (er d) := dq_dp d v h
theorem DqAll.dp {F : Hp} {vs : List V} {ds : List D} (h : DqAll K F vs ds) : DpAll K.K F vs (ds.map er) := by rw [← erAll_map]; exact dq_dpAll ds vs h
mutual
theorem dq_old {B : Hp} {F : Hp} : ∀ (d : D) (v : V), Dq K F v d → Dq ⟨K.K, B⟩ F v (old d)
  | .none, _, h => by cases h; exact .non
  | .bool b, _, h => by cases h; exact .bl b
  | .int i, _, h => by cases h; exact .int i
  | .str x, _, h => by cases h; exact .str x
  | .list ds, _, h => by
    cases h with
    | lst hs ha => exact .lst hs (dq_oldAll ds _ ha)
  | .tuple ds, _, h => by
    cases h with
    | tup hs ha => exact .tup hs (dq_oldAll ds _ ha)
  | .nl ds, _, h => by
    cases h with
    | nl hb hs ha => exact .lst (.inl (.inl hs)) (dq_oldAll ds _ ha)
theorem dq_oldAll {B : Hp} {F : Hp} : ∀ (ds : List D) (vs : List V), DqAll K F vs ds → DqAll ⟨K.K, B⟩ F vs (oldAll ds)
  | [], _, h => by cases h; exact .nil
  | d :: ds, _, h => by
    cases h with
    | cons h1 h2 => exact .cons (dq_old d _ h1) (dq_oldAll ds _ h2)
/-- by a base that has no more, the marks stay -/
theorem dq_base {B : Hp} {F : Hp} (hb : ∀ a x, F a = some x → K.B a = Option.none → B a = Option.none) : ∀ (d : D) (v : V), Dq K F v d → Dq ⟨K.K, B⟩ F v d
  | .none, _, h => by cases h; exact .non
  | .bool b, _, h => by cases h; exact .bl b
  | .int i, _, h => by cases h; exact .int i
  | .str x, _, h => by cases h; exact .str x
  | .list ds, _, h => by
    cases h with
    | lst hs ha => exact .lst hs (dq_baseAll hb ds _ ha)
  | .tuple ds, _, h => by
    cases h with
    | tup hs ha => exact .tup hs (dq_baseAll hb ds _ ha)
  | .nl ds, _, h => by
    cases h with
    | nl h1 hs ha => exact .nl (hb _ _ hs h1) hs (dq_baseAll hb ds _ ha)
theorem dq_baseAll {B : Hp} {F : Hp} (hb : ∀ a x, F a = some x → K.B a = Option.none → B a = Option.none) : ∀ (ds : List D) (vs : List V), DqAll K F vs ds → DqAll ⟨K.K, B⟩ F vs ds
  | [], _, h => by cases h; exact .nil
  | d :: ds, _, h => by
    cases h with
    | cons h1 h2 => exact .cons (dq_base hb d _ h1) (dq_baseAll hb ds _ h2)
end
theorem Dq.vw {F : Hp} {v : V} {d : D} (h : Dq K F v d) : Dq K F v (vw d) := by
  cases h with
  | nl hb hs ha => exact .lst (.inl (.inl hs)) ha
  | non => exact .non
  | bl b => exact .bl b
  | int i => exact .int i
  | str x => exact .str x
  | lst hs ha => exact .lst hs ha
  | tup hs ha => exact .tup hs ha
theorem DqAll.len {F : Hp} : ∀ {vs : List V} {ds : List D}, DqAll K F vs ds → vs.length = ds.length
  | [], [], _ => rfl
  | _ :: vs, _ :: ds, .cons _ h => by rw [List.length_cons, List.length_cons, DqAll.len h]
theorem DqAll.get {F : Hp} : ∀ {vs : List V} {ds : List D} {i : Nat} {d : D}, DqAll K F vs ds → ds[i]? = some d → ∃ v, vs[i]? = some v ∧ Dq K F v d
  | [], [], _, _, _, e => by simp at e
  | v :: vs, d :: ds, 0, d', .cons h1 h2, e => by
    have e' : d = d' := Option.some.inj e
    subst e'
    exact ⟨v, rfl, h1⟩
  | v :: vs, d :: ds, i + 1, d', .cons h1 h2, e => DqAll.get (i := i) h2 e
theorem DqAll.append {F : Hp} : ∀ {vs ws : List V} {ds es : List D}, DqAll K F vs ds → DqAll K F ws es → DqAll K F (vs ++ ws) (ds ++ es)
  | [], _, [], _, _, h => h
  | _ :: _, _, _ :: _, _, .cons h1 h2, h => .cons h1 (DqAll.append h2 h)
theorem DqAll.take {F : Hp} : ∀ {vs : List V} {ds : List D} (n : Nat), DqAll K F vs ds → DqAll K F (vs.take n) (ds.take n)
  | _, _, 0, _ => by rw [List.take_zero, List.take_zero]; exact .nil
  | [], [], _ + 1, _ => .nil
  | _ :: _, _ :: _, n + 1, .cons h1 h2 => .cons h1 (DqAll.take n h2)
theorem DqAll.drop {F : Hp} : ∀ {vs : List V} {ds : List D} (n : Nat), DqAll K F vs ds → DqAll K F (vs.drop n) (ds.drop n)
  | _, _, 0, h => h
  | [], [], _ + 1, _ => .nil
  | _ :: _, _ :: _, n + 1, .cons _ h2 => DqAll.drop n h2
theorem DqAll.set {F : Hp} {v : V} {d : D} (h : Dq K F v d) : ∀ {vs : List V} {ds : List D} (n : Nat), DqAll K F vs ds → DqAll K F (vs.set n v) (ds.set n d)
  | [], [], _, _ => .nil
  | _ :: _, _ :: _, 0, .cons _ h2 => .cons h h2
  | _ :: _, _ :: _, n + 1, .cons h1 h2 => .cons h1 (DqAll.set h n h2)
theorem DqAll.erase {F : Hp} : ∀ {vs : List V} {ds : List D} (n : Nat), DqAll K F vs ds → DqAll K F (vs.eraseIdx n) (ds.eraseIdx n)
  | [], [], _, _ => .nil
  | _ :: _, _ :: _, 0, .cons _ h2 => h2
  | _ :: _, _ :: _, n + 1, .cons h1 h2 => .cons h1 (DqAll.erase n h2)
theorem DqAll.one {F : Hp} {v : V} {d : D} (h : Dq K F v d) : DqAll K F [v] [d] := .cons h .nil
end
/-- F, and behind it G -/
def cup (F G : Hp) : Hp := fun a => match F a with
  | some x => some x
  | none => G a
theorem cup_l {F G : Hp} : Same F (cup F G) := fun a x h => by unfold cup; rw [h]
theorem cup_r {F G : Hp} {a : Addr} {x : HO} (n : F a = none) (h : G a = some x) : cup F G a = some x := by unfold cup; rw [n]; exact h
theorem cup_of {F G : Hp} {a : Addr} {x : HO} (h : cup F G a = some x) : F a = some x ∨ (F a = none ∧ G a = some x) := by
  unfold cup at h
  split at h
  · rename_i e; rw [e, h]; exact .inl rfl
  · rename_i e; exact .inr ⟨e, h⟩

/-! ### owned things -/
/-- what a local name holds: shared data; a list, a dict of its own with shared items; the same with owned items; an instance. fr: a dict that is written no more; jd: data, of which all that is not frozen is owned; jk: a list of which nothing more is known -/
inductive O where
  | sh (d : D)
  | fl (ds : List D)
  | fd (ks : List Key) (ds : List D)
  | fr (ks : List Key) (ds : List D)
  | ol (os : List O)
  | od (ks : List Key) (os : List O)
  | oi (C : Addr) (ns : List Str) (os : List O)
  | jd (d : D)
  | jk (n : Nat)

mutual
inductive RO (K : Kb) (F H : Hp) : V → O → List Addr → Prop
  | sh {v : V} {d : D} : Dq K F v d → RO K F H v (.sh d) []
  | fl {a : Addr} {vs : List V} {ds : List D} : H a = some (.lst vs) → DqAll K F vs ds → RO K F H (.ref a) (.fl ds) [a]
  | fd {a : Addr} {kvs : List (Key × V)} {ks : List Key} {ds : List D} : H a = some (.dK kvs) → kvs.map (·.1) = ks → DqAll K F (kvs.map (·.2)) ds → RO K F H (.ref a) (.fd ks ds) [a]
  | fr {a : Addr} {o : Obj} {kvs : List (Key × V)} {ks : List Key} {ds : List D} : F a = some (.frz o (.dK kvs)) → kvs.map (·.1) = ks → DqAll K F (kvs.map (·.2)) ds → RO K F H (.ref a) (.fr ks ds) []
  | ol {a : Addr} {vs : List V} {os : List O} {l : List Addr} : H a = some (.lst vs) → ROs K F H vs os l → RO K F H (.ref a) (.ol os) (a :: l)
  | od {a : Addr} {kvs : List (Key × V)} {ks : List Key} {os : List O} {l : List Addr} : H a = some (.dK kvs) → kvs.map (·.1) = ks → ROs K F H (kvs.map (·.2)) os l → RO K F H (.ref a) (.od ks os) (a :: l)
  | oi {a C dx : Addr} {fs : List (Str × V)} {ns : List Str} {os : List O} {l : List Addr} : H a = some (.ins C dx fs) → H dx = some (.own a) → fs.map (·.1) = ns → ROs K F H (fs.map (·.2)) os l → RO K F H (.ref a) (.oi C ns os) (a :: dx :: l)
  | jd {v : V} {d : D} {G : Hp} {l : List Addr} : (∀ a x, G a = some x → H a = some x ∧ a ∈ l) → (∀ a ∈ l, ∃ x, H a = some x) → Dq ⟨K.K, F⟩ (cup F G) v d → RO K F H v (.jd d) l
  | jk {a : Addr} {vs : List V} {n : Nat} : H a = some (.lst vs) → vs.length ≤ n → RO K F H (.ref a) (.jk n) [a]
inductive ROs (K : Kb) (F H : Hp) : List V → List O → List Addr → Prop
  | nil : ROs K F H [] [] []
  | cons {v : V} {vs : List V} {o : O} {os : List O} {l m : List Addr} : RO K F H v o l → ROs K F H vs os m → ROs K F H (v :: vs) (o :: os) (l ++ m)
end

section
variable {K : Kb} {F F' H H' : Hp}
mutual
theorem ro_move (e : Same F F') : ∀ (o : O) (v : V) (l : List Addr), RO K F H v o l → (∀ a x, a ∈ l → H a = some x → H' a = some x) → (∀ a ∈ l, F' a = none) → RO K F' H' v o l
  | .sh d, _, _, h, _, _ => by cases h with | sh h => exact .sh (h.mono e)
  | .fl ds, _, _, h, k, _ => by cases h with | fl h1 h2 => exact .fl (k _ _ (by simp) h1) (h2.mono e)
  | .fd ks ds, _, _, h, k, _ => by cases h with | fd h1 h2 h3 => exact .fd (k _ _ (by simp) h1) h2 (h3.mono e)
  | .fr ks ds, _, _, h, k, _ => by cases h with | fr h1 h2 h3 => exact .fr (e _ _ h1) h2 (h3.mono e)
  | .ol os, _, _, h, k, n => by
    cases h with
    | ol h1 h2 => exact .ol (k _ _ (by simp) h1) (ros_move e os _ _ h2 (fun a x m => k a x (by simp [m])) fun a m => n a (by simp [m]))
  | .od ks os, _, _, h, k, n => by
    cases h with
    | od h1 h2 h3 => exact .od (k _ _ (by simp) h1) h2 (ros_move e os _ _ h3 (fun a x m => k a x (by simp [m])) fun a m => n a (by simp [m]))
  | .oi C ns os, _, _, h, k, n => by
    cases h with
    | oi h1 h2 h3 h4 => exact .oi (k _ _ (by simp) h1) (k _ _ (by simp) h2) h3 (ros_move e os _ _ h4 (fun a x m => k a x (by simp [m])) fun a m => n a (by simp [m]))
  | .jd d, _, _, h, k, n => by
    cases h with
    | jd h1 h2 h3 =>
      refine .jd (fun a x z => ⟨k a x (h1 a x z).2 (h1 a x z).1, (h1 a x z).2⟩) (fun a m => let ⟨x, z⟩ := h2 a m; ⟨x, k a x m z⟩) (Dq.mono (dq_base (K := ⟨K.K, F⟩) (B := F') (fun a x z q => ?_) _ _ h3) fun a x z => ?_)
      · rcases cup_of z with z | ⟨_, z⟩
        · have q : F a = none := q
          rw [q] at z; cases z
        · exact n a (h1 a x z).2
      · rcases cup_of z with z | ⟨_, z⟩
        · exact cup_l a x (e a x z)
        · exact cup_r (n a (h1 a x z).2) z
  | .jk m, _, _, h, k, _ => by cases h with | jk h1 h2 => exact .jk (k _ _ (by simp) h1) h2
theorem ros_move (e : Same F F') : ∀ (os : List O) (vs : List V) (l : List Addr), ROs K F H vs os l → (∀ a x, a ∈ l → H a = some x → H' a = some x) → (∀ a ∈ l, F' a = none) → ROs K F' H' vs os l
  | [], _, _, h, _, _ => by cases h; exact .nil
  | o :: os, _, _, h, k, n => by
    cases h with
    | cons h1 h2 => exact .cons (ro_move e o _ _ h1 (fun a x m => k a x (List.mem_append_left _ m)) fun a m => n a (List.mem_append_left _ m)) (ros_move e os _ _ h2 (fun a x m => k a x (List.mem_append_right _ m)) fun a m => n a (List.mem_append_right _ m))
end
theorem RO.move {v : V} {o : O} {l : List Addr} (h : RO K F H v o l) (e : Same F F') (k : ∀ a x, a ∈ l → H a = some x → H' a = some x) (n : ∀ a ∈ l, F' a = none) : RO K F' H' v o l := ro_move e o v l h k n
mutual
theorem ro_there : ∀ (o : O) (v : V) (l : List Addr), RO K F H v o l → ∀ a ∈ l, ∃ x, H a = some x
  | .sh d, _, _, h => by cases h; intro a m; simp at m
  | .fl ds, _, _, h => by cases h with | fl h1 h2 => intro a m; simp at m; subst m; exact ⟨_, h1⟩
  | .fd ks ds, _, _, h => by cases h with | fd h1 h2 h3 => intro a m; simp at m; subst m; exact ⟨_, h1⟩
  | .fr ks ds, _, _, h => by cases h; intro a m; simp at m
  | .ol os, _, _, h => by
    cases h with
    | ol h1 h2 =>
      intro a m
      rcases List.mem_cons.mp m with rfl | m
      · exact ⟨_, h1⟩
      · exact ros_there os _ _ h2 a m
  | .od ks os, _, _, h => by
    cases h with
    | od h1 h2 h3 =>
      intro a m
      rcases List.mem_cons.mp m with rfl | m
      · exact ⟨_, h1⟩
      · exact ros_there os _ _ h3 a m
  | .oi C ns os, _, _, h => by
    cases h with
    | oi h1 h2 h3 h4 =>
      intro a m
      rcases List.mem_cons.mp m with rfl | m
      · exact ⟨_, h1⟩
      · rcases List.mem_cons.mp m with rfl | m
        · exact ⟨_, h2⟩
        · exact ros_there os _ _ h4 a m
  | .jd d, _, _, h => by cases h with | jd h1 h2 h3 => exact h2
  | .jk n, _, _, h => by cases h with | jk h1 h2 => intro a m; simp at m; subst m; exact ⟨_, h1⟩
theorem ros_there : ∀ (os : List O) (vs : List V) (l : List Addr), ROs K F H vs os l → ∀ a ∈ l, ∃ x, H a = some x
  | [], _, _, h => by cases h; intro a m; simp at m
  | o :: os, _, _, h => by
    cases h with
    | cons h1 h2 =>
      intro a m
      rcases List.mem_append.mp m with m | m
      · exact ro_there o _ _ h1 a m
      · exact ros_there os _ _ h2 a m
end
theorem RO.there {v : V} {o : O} {l : List Addr} (h : RO K F H v o l) : ∀ a ∈ l, ∃ x, H a = some x := ro_there o v l h
end

/-! ### from a state to a later one -/
/-- F: what is frozen; L: what is owned -/
structure Ext (F H : Hp) (L : Addr → Prop) (F' H' : Hp) (L' : Addr → Prop) : Prop where
  f : Same F F'
  h : ∀ a o, ¬ L a → H a = some o → H' a = some o
  dom : ∀ a o, H a = some o → ∃ o', H' a = some o'
  l : ∀ a, L' a → L a ∨ H a = none
  fn : ∀ a o, F' a = some o → F a = some o ∨ L a ∨ H a = none
theorem none_or (H : Hp) (a : Addr) : H a = none ∨ ∃ o, H a = some o := by
  cases e : H a with
  | none => exact .inl rfl
  | some o => exact .inr ⟨o, rfl⟩
theorem Ext.refl {F H : Hp} {L : Addr → Prop} : Ext F H L F H L := ⟨Same.refl F, fun _ _ _ e => e, fun _ o e => ⟨o, e⟩, fun _ h => .inl h, fun _ _ e => .inl e⟩
theorem Ext.trans {F1 H1 F2 H2 F3 H3 : Hp} {L1 L2 L3 : Addr → Prop} (a : Ext F1 H1 L1 F2 H2 L2) (b : Ext F2 H2 L2 F3 H3 L3) : Ext F1 H1 L1 F3 H3 L3 where
  f := a.f.trans b.f
  h := fun c o n e => b.h c o (fun q => by
    rcases a.l c q with q | q
    · exact n q
    · rw [e] at q; cases q) (a.h c o n e)
  dom := fun c o e => by
    obtain ⟨o', e'⟩ := a.dom c o e
    exact b.dom c o' e'
  l := fun c q => by
    rcases b.l c q with q | q
    · exact a.l c q
    · rcases none_or H1 c with z | ⟨o, z⟩
      · exact .inr z
      · obtain ⟨o', e'⟩ := a.dom c o z
        rw [e'] at q; cases q
  fn := fun c o q => by
    rcases b.fn c o q with q | q | q
    · exact a.fn c o q
    · exact .inr (a.l c q)
    · rcases none_or H1 c with z | ⟨o, z⟩
      · exact .inr (.inr z)
      · obtain ⟨o', e'⟩ := a.dom c o z
        rw [e'] at q; cases q
/-- fewer are owned behind -/
theorem Ext.less {F H F' H' : Hp} {L L' L'' : Addr → Prop} (a : Ext F H L F' H' L') (h : ∀ c, L'' c → L' c) : Ext F H L F' H' L'' := ⟨a.f, a.h, a.dom, fun c q => a.l c (h c q), a.fn⟩
/-- more were owned ahead -/
theorem Ext.more {F H F' H' : Hp} {L L2 L' : Addr → Prop} (a : Ext F H L F' H' L') (h : ∀ c, L c → L2 c) : Ext F H L2 F' H' L' :=
  ⟨a.f, fun c o n e => a.h c o (fun q => n (h c q)) e, a.dom, fun c q => (a.l c q).imp (h c) id, fun c o q => (a.fn c o q).imp id (Or.imp (h c) id)⟩

/-- only new things are laid: lo are owned, the others that are new in F' frozen -/
structure Nx (F H F' H' : Hp) (lo : List Addr) : Prop where
  f : Same F F'
  h : Same H H'
  s : Same F' H'
  nw : ∀ a o, F' a = some o → F a = some o ∨ H a = none
  lw : ∀ a ∈ lo, H a = none ∧ F' a = none
  nd : lo.Nodup
theorem Nx.refl {F H : Hp} (e : Same F H) : Nx F H F H [] := ⟨Same.refl F, Same.refl H, e, fun _ _ q => .inl q, fun _ m => by simp at m, List.nodup_nil⟩

/-! ### the names -/
abbrev Ev := List (Option O)
structure Good (K : Kb) (σ : St) (ρ : Ev) (F H : Hp) (fp : Nat → List Addr) : Prop where
  same : Same F H
  bs : Same K.B F
  loc : ∀ i o, ρ[i]? = some (some o) → ∃ v, σ[i]? = some (some v) ∧ RO K F H v o (fp i)
  off : ∀ i, (∀ o, ρ[i]? ≠ some (some o)) → fp i = []
  nd : ∀ i, (fp i).Nodup
  dj : ∀ i j a, i ≠ j → a ∈ fp i → a ∉ fp j
  df : ∀ i a, a ∈ fp i → F a = none
  len : ρ.length = σ.length
abbrev inL (fp : Nat → List Addr) : Addr → Prop := fun a => ∃ i, a ∈ fp i

section
variable {K : Kb} {σ : St} {ρ : Ev} {F F' H H' : Hp} {fp : Nat → List Addr} {lo : List Addr}
theorem Good.there (g : Good K σ ρ F H fp) {a : Addr} (h : inL fp a) : ∃ x, H a = some x := by
  obtain ⟨i, m⟩ := h
  rcases Classical.em (∃ o, ρ[i]? = some (some o)) with ⟨o, e⟩ | n
  · obtain ⟨v, _, r⟩ := g.loc i o e
    exact r.there a m
  · rw [g.off i fun o e => n ⟨o, e⟩] at m
    simp at m
/-- nothing of the names' own is touched -/
theorem Good.step (g : Good K σ ρ F H fp) (e : Same F F') (s : Same F' H') (k : ∀ a x, inL fp a → H a = some x → H' a = some x) (d : ∀ a, inL fp a → F' a = none) : Good K σ ρ F' H' fp where
  same := s
  bs := g.bs.trans e
  loc := fun i o h => by
    obtain ⟨v, hv, r⟩ := g.loc i o h
    exact ⟨v, hv, r.move e (fun a x m => k a x ⟨i, m⟩) fun a m => d a ⟨i, m⟩⟩
  off := g.off
  nd := g.nd
  dj := g.dj
  df := fun i a m => d a ⟨i, m⟩
  len := g.len
theorem Good.nx (g : Good K σ ρ F H fp) (n : Nx F H F' H' lo) : Good K σ ρ F' H' fp := by
  refine g.step n.f n.s (fun a x _ e => n.h a x e) fun a m => ?_
  cases e : F' a with
  | none => rfl
  | some o =>
    obtain ⟨i, mi⟩ := m
    rcases n.nw a o e with q | q
    · rw [g.df i a mi] at q; cases q
    · obtain ⟨x, ex⟩ := g.there ⟨i, mi⟩
      rw [ex] at q; cases q
theorem Good.nxExt (g : Good K σ ρ F H fp) (n : Nx F H F' H' lo) : Ext F H (inL fp) F' H' (fun a => a ∈ lo ∨ inL fp a) where
  f := n.f
  h := fun a o _ e => n.h a o e
  dom := fun a o e => ⟨o, n.h a o e⟩
  l := fun a q => by
    rcases q with q | q
    · exact .inr (n.lw a q).1
    · exact .inl q
  fn := fun a o q => by
    rcases n.nw a o q with q | q
    · exact .inl q
    · exact .inr (.inr q)
theorem Good.nxOut (g : Good K σ ρ F H fp) (n : Nx F H F' H' lo) : ∀ a ∈ lo, F' a = none ∧ ∀ i, a ∉ fp i := fun a m => ⟨(n.lw a m).2, fun i mi => by
  obtain ⟨x, ex⟩ := g.there ⟨i, mi⟩
  rw [(n.lw a m).1] at ex; cases ex⟩
end

/-! ### freezing -/
/-- a thing as shared data -/
def fz : O → Option D
  | .sh d => some d
  | .fl ds => some (.nl ds)
  | .jd d => some d
  | _ => none
/-- as it is read at its place -/
def rdO : O → Option D
  | .sh d => some (vw d)
  | .fl ds => some (.list ds)
  | _ => none
section
variable {K : Kb} {F H : Hp}
/-- what is owned by o alone is frozen -/
theorem freeze {v : V} {o : O} {d : D} {lo : List Addr} (r : RO K F H v o lo) (e : fz o = some d) (s : Same F H) (bs : Same K.B F) (df : ∀ a ∈ lo, F a = none) :
    ∃ F', Same F F' ∧ Same F' H ∧ (∀ a x, F' a = some x → F a = some x ∨ a ∈ lo) ∧ Dq K F' v d := by
  cases r with
  | sh h => cases e; exact ⟨F, Same.refl F, s, fun _ _ q => .inl q, h⟩
  | @fl a vs ds h1 h2 =>
    cases e
    have n : F a = none := df a (by simp)
    have e1 : Same F (upd F a (.lst vs)) := fun b x q => by rw [upd_ne (ne_of_none q n)]; exact q
    refine ⟨upd F a (.lst vs), e1, fun b x q => ?_, fun b x q => ?_, .nl (bs.free n) upd_same (h2.mono e1)⟩
    · by_cases z : b = a
      · subst z; rw [upd_same] at q; cases q; exact h1
      · rw [upd_ne z] at q; exact s b x q
    · by_cases z : b = a
      · subst z; exact .inr (by simp)
      · rw [upd_ne z] at q; exact .inl q
  | @jd v d G l h1 h2 h3 =>
    cases e
    refine ⟨cup F G, cup_l, fun b x q => ?_, fun b x q => ?_, dq_base (K := ⟨K.K, F⟩) (B := K.B) (fun a x _ q => bs.free q) _ _ h3⟩
    · rcases cup_of q with q | ⟨_, q⟩
      · exact s b x q
      · exact (h1 b x q).1
    · rcases cup_of q with q | ⟨_, q⟩
      · exact .inl q
      · exact .inr (h1 b x q).2
  | _ => cases e
end
end Pl
/-! The pure layer, part 2: expressions, tests, operators. -/
namespace Pl
open PySem PySem.Spec L2

/-! ### what an expression is worth in the heap, whatever its reading -/
def wE (X : Cx) (e : Expr) : TE := fun σ H Q => ∀ pins s, Inv X pins σ H s → wpAny (model X.prog X.w) X.A (eval e X.env) (EP X pins σ Q) X.xe s
def wT (X : Cx) (e : Expr) : TT := fun σ H Q => ∀ pins s, Inv X pins σ H s → wpAny (model X.prog X.w) X.A (isTrue e X.env (eval e X.env)) (TP X pins σ Q) X.xe s
def wW (X : Cx) (e : Expr) : TT := fun σ H Q => ∀ whole pins s, Inv X pins σ H s → wpAny (model X.prog X.w) X.A (isTrue e X.env whole) (TP X pins σ Q) X.xe s
def wA (X : Cx) (es : List Expr) : TA := fun σ H Q => ∀ (pos : Pos) pins s, Inv X pins σ H s → wpAny (model X.prog X.w) X.A (spliced (backTo pos (starEach es X.env))) (AP X pins σ Q) X.xe s
section
variable {X : Cx} {B : Hp} {e : Expr} {es : List Expr} {σ : L2.St} {H : Hp}
theorem pe_w : PE X e (wE X e) := ⟨fun pins s σ H Q I h => h pins s I⟩
theorem pt_w : PT X e (wT X e) := ⟨fun pins s σ H Q I h => h pins s I⟩
theorem pw_w : PW X e (wW X e) := ⟨fun wh pins s σ H Q I h => h wh pins s I⟩
theorem pa_w : PA X es (wA X es) := ⟨fun pos pins s σ H Q I h => h pos pins s I⟩
theorem wE_of {t : TE} {Q : VK} (h : PE X e t) (q : t σ H Q) : wE X e σ H Q := fun pins s I => h.run pins s σ H Q I q
theorem wT_of {t : TT} {Q : Bool → Hp → Prop} (h : PT X e t) (q : t σ H Q) : wT X e σ H Q := fun pins s I => h.run pins s σ H Q I q
theorem wW_of {t : TT} {Q : Bool → Hp → Prop} (h : PW X e t) (q : t σ H Q) : wW X e σ H Q := fun wh pins s I => h.run wh pins s σ H Q I q
theorem wA_of {t : TA} {Q : List V → Hp → Prop} (h : PA X es t) (q : t σ H Q) : wA X es σ H Q := fun pos pins s I => h.run pos pins s σ H Q I q
theorem wE_mono {Q Q' : VK} (h : wE X e σ H Q) (k : ∀ v H', Q v H' → Q' v H') : wE X e σ H Q' := fun pins s I => thn (h pins s I) fun _ _ ⟨v, H', I', r, q⟩ => ⟨v, H', I', r, k v H' q⟩
theorem wT_mono {Q Q' : Bool → Hp → Prop} (h : wT X e σ H Q) (k : ∀ v H', Q v H' → Q' v H') : wT X e σ H Q' := fun pins s I => thn (h pins s I) fun _ _ ⟨H', I', q⟩ => ⟨H', I', k _ H' q⟩
theorem wW_mono {Q Q' : Bool → Hp → Prop} (h : wW X e σ H Q) (k : ∀ v H', Q v H' → Q' v H') : wW X e σ H Q' := fun wh pins s I => thn (h wh pins s I) fun _ _ ⟨H', I', q⟩ => ⟨H', I', k _ H' q⟩
theorem wA_mono {Q Q' : List V → Hp → Prop} (h : wA X es σ H Q) (k : ∀ v H', Q v H' → Q' v H') : wA X es σ H Q' := fun pos pins s I => thn (h pos pins s I) fun _ _ ⟨v, H', I', r, q⟩ => ⟨v, H', I', r, k v H' q⟩
end

/-! ### readings -/
/-- an operand: a shared value, or a name's own thing -/
inductive Op where
  | val (d : D)
  | pl (i : Nat)
def res (ρ : Ev) : Op → Option D
  | .val d => some (vw d)
  | .pl i => match ρ[i]? with
    | some (some o) => rdO o
    | _ => none
abbrev TPo := Ev → (O → Ev → Prop) → Prop
abbrev TPe := Ev → (D → Ev → Prop) → Prop
abbrev TPx := Ev → (Op → Ev → Prop) → Prop
abbrev TPt := Ev → (Bool → Ev → Prop) → Prop
abbrev TPs := Ev → (List Op → Ev → Prop) → Prop

def OpIs (K : Kb) (F : Hp) (σ : L2.St) (v : V) : Op → Prop
  | .val d => Dq K F v d
  | .pl i => σ[i]? = some (some v)
theorem OpIs.mono {K : Kb} {F F' : Hp} {σ : L2.St} {v : V} {p : Op} (h : OpIs K F σ v p) (e : Same F F') : OpIs K F' σ v p := by
  cases p with
  | val d => exact Dq.mono h e
  | pl i => exact h
inductive OpsAre (K : Kb) (F : Hp) (σ : L2.St) : List V → List Op → Prop
  | nil : OpsAre K F σ [] []
  | cons {v : V} {vs : List V} {p : Op} {ps : List Op} : OpIs K F σ v p → OpsAre K F σ vs ps → OpsAre K F σ (v :: vs) (p :: ps)
theorem OpsAre.mono {K : Kb} {F F' : Hp} {σ : L2.St} (e : Same F F') : ∀ {vs : List V} {ps : List Op}, OpsAre K F σ vs ps → OpsAre K F' σ vs ps
  | _, _, .nil => .nil
  | _, _, .cons h t => .cons (h.mono e) (OpsAre.mono e t)

/-! ### what is found behind -/
def QO (K : Kb) (σ : L2.St) (F H : Hp) (L : Addr → Prop) (Q : O → Ev → Prop) : VK := fun v H' => ∃ o ρ' F' fp' lo, RO K F' H' v o lo ∧ lo.Nodup ∧ (∀ a ∈ lo, F' a = none ∧ ∀ i, a ∉ fp' i) ∧
  Good K σ ρ' F' H' fp' ∧ Ext F H L F' H' (fun a => a ∈ lo ∨ inL fp' a) ∧ Q o ρ'
def QD (K : Kb) (σ : L2.St) (F H : Hp) (L : Addr → Prop) (Q : D → Ev → Prop) : VK := fun v H' => ∃ d ρ' F' fp', Dq K F' v d ∧ Good K σ ρ' F' H' fp' ∧ Ext F H L F' H' (inL fp') ∧ Q d ρ'
def QX (K : Kb) (σ : L2.St) (F H : Hp) (L : Addr → Prop) (Q : Op → Ev → Prop) : VK := fun v H' => ∃ p ρ' F' fp', OpIs K F' σ v p ∧ Good K σ ρ' F' H' fp' ∧ Ext F H L F' H' (inL fp') ∧ Q p ρ'
def QT (K : Kb) (σ : L2.St) (F H : Hp) (L : Addr → Prop) (Q : Bool → Ev → Prop) : Bool → Hp → Prop := fun b H' => ∃ ρ' F' fp', Good K σ ρ' F' H' fp' ∧ Ext F H L F' H' (inL fp') ∧ Q b ρ'
def QS (K : Kb) (σ : L2.St) (F H : Hp) (L : Addr → Prop) (Q : List Op → Ev → Prop) : List V → Hp → Prop := fun vs H' => ∃ ps ρ' F' fp', OpsAre K F' σ vs ps ∧ Good K σ ρ' F' H' fp' ∧ Ext F H L F' H' (inL fp') ∧ Q ps ρ'
section
variable {K : Kb} {σ : L2.St} {F H F1 H1 : Hp} {L L1 : Addr → Prop}
theorem QO.ext {Q : O → Ev → Prop} {v : V} {H' : Hp} (e : Ext F H L F1 H1 L1) (q : QO K σ F1 H1 L1 Q v H') : QO K σ F H L Q v H' := by
  obtain ⟨o, ρ', F', fp', lo, h1, h2, h3, h4, h5, h6⟩ := q
  exact ⟨o, ρ', F', fp', lo, h1, h2, h3, h4, e.trans h5, h6⟩
theorem QD.ext {Q : D → Ev → Prop} {v : V} {H' : Hp} (e : Ext F H L F1 H1 L1) (q : QD K σ F1 H1 L1 Q v H') : QD K σ F H L Q v H' := by
  obtain ⟨o, ρ', F', fp', h1, h4, h5, h6⟩ := q
  exact ⟨o, ρ', F', fp', h1, h4, e.trans h5, h6⟩
theorem QX.ext {Q : Op → Ev → Prop} {v : V} {H' : Hp} (e : Ext F H L F1 H1 L1) (q : QX K σ F1 H1 L1 Q v H') : QX K σ F H L Q v H' := by
  obtain ⟨o, ρ', F', fp', h1, h4, h5, h6⟩ := q
  exact ⟨o, ρ', F', fp', h1, h4, e.trans h5, h6⟩
theorem QT.ext {Q : Bool → Ev → Prop} {v : Bool} {H' : Hp} (e : Ext F H L F1 H1 L1) (q : QT K σ F1 H1 L1 Q v H') : QT K σ F H L Q v H' := by
  obtain ⟨ρ', F', fp', h4, h5, h6⟩ := q
  exact ⟨ρ', F', fp', h4, e.trans h5, h6⟩
theorem QS.ext {Q : List Op → Ev → Prop} {v : List V} {H' : Hp} (e : Ext F H L F1 H1 L1) (q : QS K σ F1 H1 L1 Q v H') : QS K σ F H L Q v H' := by
  obtain ⟨o, ρ', F', fp', h1, h4, h5, h6⟩ := q
  exact ⟨o, ρ', F', fp', h1, h4, e.trans h5, h6⟩
end

/-! ### judgements -/
structure JO (X : Cx) (B : Hp) (e : Expr) (t : TPo) : Prop where
  run : ∀ (σ : L2.St) (ρ : Ev) (F H : Hp) (fp : Nat → List Addr) (Q : O → Ev → Prop), Good (kb X B) σ ρ F H fp → t ρ Q → wE X e σ H (QO (kb X B) σ F H (inL fp) Q)
structure JE (X : Cx) (B : Hp) (e : Expr) (t : TPe) : Prop where
  run : ∀ (σ : L2.St) (ρ : Ev) (F H : Hp) (fp : Nat → List Addr) (Q : D → Ev → Prop), Good (kb X B) σ ρ F H fp → t ρ Q → wE X e σ H (QD (kb X B) σ F H (inL fp) Q)
structure JX (X : Cx) (B : Hp) (e : Expr) (t : TPx) : Prop where
  run : ∀ (σ : L2.St) (ρ : Ev) (F H : Hp) (fp : Nat → List Addr) (Q : Op → Ev → Prop), Good (kb X B) σ ρ F H fp → t ρ Q → wE X e σ H (QX (kb X B) σ F H (inL fp) Q)
structure JT (X : Cx) (B : Hp) (e : Expr) (t : TPt) : Prop where
  run : ∀ (σ : L2.St) (ρ : Ev) (F H : Hp) (fp : Nat → List Addr) (Q : Bool → Ev → Prop), Good (kb X B) σ ρ F H fp → t ρ Q → wT X e σ H (QT (kb X B) σ F H (inL fp) Q)
structure JW (X : Cx) (B : Hp) (e : Expr) (t : TPt) : Prop where
  run : ∀ (σ : L2.St) (ρ : Ev) (F H : Hp) (fp : Nat → List Addr) (Q : Bool → Ev → Prop), Good (kb X B) σ ρ F H fp → t ρ Q → wW X e σ H (QT (kb X B) σ F H (inL fp) Q)
structure JS (X : Cx) (B : Hp) (es : List Expr) (t : TPs) : Prop where
  run : ∀ (σ : L2.St) (ρ : Ev) (F H : Hp) (fp : Nat → List Addr) (Q : List Op → Ev → Prop), Good (kb X B) σ ρ F H fp → t ρ Q → wA X es σ H (QS (kb X B) σ F H (inL fp) Q)

/-! ### from one to another -/
def oE (t : TPe) : TPo := fun ρ Q => t ρ fun d ρ' => Q (.sh d) ρ'
def eO (t : TPo) : TPe := fun ρ Q => t ρ fun o ρ' => match fz o with
  | some d => Q d ρ'
  | none => False
def xE (t : TPe) : TPx := fun ρ Q => t ρ fun d ρ' => Q (.val d) ρ'
section
variable {X : Cx} {B : Hp} {e : Expr}
theorem QD.qo {K : Kb} {σ : L2.St} {F H H' : Hp} {L : Addr → Prop} {Q : O → Ev → Prop} {v : V} (q : QD K σ F H L (fun d ρ' => Q (.sh d) ρ') v H') : QO K σ F H L Q v H' := by
  obtain ⟨d, ρ', F', fp', h1, h2, h3, h4⟩ := q
  exact ⟨.sh d, ρ', F', fp', [], .sh h1, List.nodup_nil, fun a m => by simp at m, h2, h3.less fun c z => z.elim (fun m => by simp at m) id, h4⟩
theorem QO.qd {K : Kb} {σ : L2.St} {F H H' : Hp} {L : Addr → Prop} {Q : D → Ev → Prop} {v : V} (q : QO K σ F H L (fun o ρ' => match fz o with
  | some d => Q d ρ'
  | none => False) v H') : QD K σ F H L Q v H' := by
  obtain ⟨o, ρ', F', fp', lo, h1, h2, h3, h4, h5, h6⟩ := q
  cases e : fz o with
  | none => rw [e] at h6; exact h6.elim
  | some d =>
    rw [e] at h6
    obtain ⟨F2, f1, f2, f3, f4⟩ := freeze h1 e h4.same h4.bs fun a m => (h3 a m).1
    refine ⟨d, ρ', F2, fp', f4, h4.step f1 f2 (fun a x _ z => z) fun a ⟨i, m⟩ => ?_, h5.trans ⟨f1, fun a o _ z => z, fun a o z => ⟨o, z⟩, fun a z => .inl (.inr z), fun a x z => ?_⟩, h6⟩
    · rcases none_or F2 a with z | ⟨x, z⟩
      · exact z
      · rcases f3 a x z with y | y
        · rw [h4.df i a m] at y; cases y
        · exact absurd m ((h3 a y).2 i)
    · rcases f3 a x z with y | y
      · exact .inl y
      · exact .inr (.inl (.inl y))
theorem JE.jo {t : TPe} (h : JE X B e t) : JO X B e (oE t) := ⟨fun σ ρ F H fp Q g q => wE_mono (h.run σ ρ F H fp _ g q) fun v H' z => z.qo⟩
theorem JO.je {t : TPo} (h : JO X B e t) : JE X B e (eO t) := ⟨fun σ ρ F H fp Q g q => wE_mono (h.run σ ρ F H fp _ g q) fun v H' z => z.qd⟩
theorem JE.jx {t : TPe} (h : JE X B e t) : JX X B e (xE t) := ⟨fun σ ρ F H fp Q g q => wE_mono (h.run σ ρ F H fp _ g q) fun v H' ⟨d, ρ', F', fp', h1, h2, h3, h4⟩ => ⟨.val d, ρ', F', fp', h1, h2, h3, h4⟩⟩
end

/-! ### names and constants -/
/-- a name's thing, as an operand -/
def xV (i : Nat) : TPx := fun ρ Q => match ρ[i]? with
  | some (some _) => Q (.pl i) ρ
  | _ => False
/-- .. as shared data: it is written no more -/
def eV (i : Nat) : TPe := fun ρ Q => match ρ[i]? with
  | some (some o) => match fz o with
    | some d => Q d (ρ.set i (some (.sh d)))
    | none => False
  | _ => False
/-- .. taken away from its name -/
def oV (i : Nat) : TPo := fun ρ Q => match ρ[i]? with
  | some (some o) => Q o (ρ.set i none)
  | _ => False
def eC (d : D) : TPe := fun ρ Q => Q d ρ
section
variable {K : Kb} {σ : L2.St} {ρ : Ev} {F F' H H' : Hp} {fp : Nat → List Addr}
theorem get_set {α : Type} {l : List α} {i j : Nat} {x y : α} (h : (l.set i x)[j]? = some y) : (j = i ∧ y = x) ∨ (j ≠ i ∧ l[j]? = some y) := by
  by_cases e : j = i
  · subst e
    by_cases hl : j < l.length
    · rw [List.getElem?_set_self hl] at h; cases h; exact .inl ⟨rfl, rfl⟩
    · rw [List.getElem?_eq_none (by rw [List.length_set]; omega)] at h; cases h
  · rw [List.getElem?_set_ne (Ne.symm e)] at h
    exact .inr ⟨e, h⟩
/-- the name i is given o; what it held is dropped -/
theorem Good.put (g : Good K σ ρ F H fp) {i : Nat} {v : V} {o : O} {lo : List Addr} (r : RO K F H v o lo) (nd : lo.Nodup) (h : ∀ a ∈ lo, F a = none ∧ ∀ j, j ≠ i → a ∉ fp j) (hi : i < ρ.length) :
    Good K (σ.set i (some v)) (ρ.set i (some o)) F H (fun j => if j = i then lo else fp j) where
  same := g.same
  bs := g.bs
  loc := fun j o' e => by
    rcases get_set e with ⟨rfl, e2⟩ | ⟨n, e⟩
    · cases e2
      refine ⟨v, by rw [List.getElem?_set_self (by rw [← g.len]; exact hi)], ?_⟩
      show RO K F H v o (if j = j then lo else fp j)
      rw [if_pos rfl]; exact r
    · obtain ⟨v', hv, r'⟩ := g.loc j o' e
      refine ⟨v', by rw [List.getElem?_set_ne (Ne.symm n)]; exact hv, ?_⟩
      show RO K F H v' o' (if j = i then lo else fp j)
      rw [if_neg n]; exact r'
  off := fun j n => by
    by_cases e : j = i
    · subst e
      exact absurd (by rw [List.getElem?_set_self hi]) (n o)
    · show (if j = i then lo else fp j) = []
      rw [if_neg e]
      exact g.off j fun o' h => n o' (by rw [List.getElem?_set_ne (Ne.symm e)]; exact h)
  nd := fun j => by
    show (if j = i then lo else fp j).Nodup
    by_cases e : j = i
    · rw [if_pos e]; exact nd
    · rw [if_neg e]; exact g.nd j
  dj := fun j k a n m => by
    have m : a ∈ (if j = i then lo else fp j) := m
    show a ∉ (if k = i then lo else fp k)
    by_cases e : j = i
    · rw [if_pos e] at m
      have e' : ¬ k = i := fun z => n (e.trans z.symm)
      rw [if_neg e']
      exact (h a m).2 k e'
    · rw [if_neg e] at m
      by_cases e' : k = i
      · rw [if_pos e']
        exact fun z => (h a z).2 j e m
      · rw [if_neg e']; exact g.dj j k a n m
  df := fun j a m => by
    have m : a ∈ (if j = i then lo else fp j) := m
    by_cases e : j = i
    · rw [if_pos e] at m; exact (h a m).1
    · rw [if_neg e] at m; exact g.df j a m
  len := by rw [List.length_set, List.length_set]; exact g.len
theorem set_id {α : Type} {l : List α} {i : Nat} {x : α} (h : l[i]? = some x) : l.set i x = l := by
  apply List.ext_getElem?
  intro j
  by_cases e : j = i
  · subst e
    have hl : j < l.length := (List.getElem?_eq_some_iff.mp h).1
    rw [List.getElem?_set_self hl, h]
  · rw [List.getElem?_set_ne (Ne.symm e)]
/-- the name's own value stays, the thing behind it changes -/
theorem Good.alter (g : Good K σ ρ F H fp) {i : Nat} {v : V} {o : O} {lo : List Addr} (hv : σ[i]? = some (some v)) (r : RO K F H v o lo) (nd : lo.Nodup) (h : ∀ a ∈ lo, F a = none ∧ ∀ j, j ≠ i → a ∉ fp j) :
    Good K σ (ρ.set i (some o)) F H (fun j => if j = i then lo else fp j) := by
  have hi : i < ρ.length := by rw [g.len]; exact (List.getElem?_eq_some_iff.mp hv).1
  have z := g.put r nd h hi
  rw [set_id hv] at z
  exact z
theorem if_in {fp : Nat → List Addr} {i : Nat} {lo : List Addr} {a : Addr} : inL (fun j => if j = i then lo else fp j) a → a ∈ lo ∨ inL fp a := fun ⟨j, m⟩ => by
  have m : a ∈ (if j = i then lo else fp j) := m
  by_cases e : j = i
  · rw [if_pos e] at m; exact .inl m
  · rw [if_neg e] at m; exact .inr ⟨j, m⟩
/-- a name is emptied -/
theorem Good.drop (g : Good K σ ρ F H fp) (i : Nat) : Good K σ (ρ.set i none) F H (fun j => if j = i then [] else fp j) where
  same := g.same
  bs := g.bs
  loc := fun j o' e => by
    rcases get_set e with ⟨rfl, e2⟩ | ⟨n, e⟩
    · cases e2
    · obtain ⟨v', hv, r'⟩ := g.loc j o' e
      refine ⟨v', hv, ?_⟩
      show RO K F H v' o' (if j = i then [] else fp j)
      rw [if_neg n]; exact r'
  off := fun j n => by
    show (if j = i then [] else fp j) = []
    by_cases e : j = i
    · rw [if_pos e]
    · rw [if_neg e]
      exact g.off j fun o' h => n o' (by rw [List.getElem?_set_ne (Ne.symm e)]; exact h)
  nd := fun j => by
    show (if j = i then [] else fp j).Nodup
    by_cases e : j = i
    · rw [if_pos e]; exact List.nodup_nil
    · rw [if_neg e]; exact g.nd j
  dj := fun j k a n m => by
    have m : a ∈ (if j = i then [] else fp j) := m
    show a ∉ (if k = i then [] else fp k)
    by_cases e : j = i
    · rw [if_pos e] at m; simp at m
    · rw [if_neg e] at m
      by_cases e' : k = i
      · rw [if_pos e']; simp
      · rw [if_neg e']; exact g.dj j k a n m
  df := fun j a m => by
    have m : a ∈ (if j = i then [] else fp j) := m
    by_cases e : j = i
    · rw [if_pos e] at m; simp at m
    · rw [if_neg e] at m; exact g.df j a m
  len := by rw [List.length_set]; exact g.len
end
section
variable {X : Cx} {B : Hp} {i : Nat} {x : Str} {pos : Pos}
theorem jx_v (hp : PE X (.Name x pos) (tVar i)) : JX X B (.Name x pos) (xV i) := by
  refine ⟨fun σ ρ F H fp Q g q => ?_⟩
  unfold xV at q
  split at q
  · rename_i o e
    obtain ⟨v, hv, r⟩ := g.loc i o e
    exact wE_of hp ⟨v, hv, .pl i, ρ, F, fp, hv, g, .refl, q⟩
  · exact q.elim
theorem je_v (hp : PE X (.Name x pos) (tVar i)) : JE X B (.Name x pos) (eV i) := by
  refine ⟨fun σ ρ F H fp Q g q => ?_⟩
  unfold eV at q
  split at q
  · rename_i o e
    split at q
    · rename_i d ed
      obtain ⟨v, hv, r⟩ := g.loc i o e
      obtain ⟨F2, f1, f2, f3, f4⟩ := freeze r ed g.same g.bs fun a m => g.df i a m
      have g2 : Good (kb X B) σ (ρ.set i (some (.sh d))) F2 H (fun j => if j = i then [] else fp j) := by
        have g1 := g.drop i
        have g1' : Good (kb X B) σ (ρ.set i none) F2 H (fun j => if j = i then [] else fp j) := g1.step f1 f2 (fun _ _ _ z => z) fun a ⟨j, m⟩ => by
          have m : a ∈ (if j = i then [] else fp j) := m
          by_cases z : j = i
          · rw [if_pos z] at m; simp at m
          · rw [if_neg z] at m
            rcases none_or F2 a with y | ⟨w, y⟩
            · exact y
            · rcases f3 a w y with y' | y'
              · rw [g.df j a m] at y'; cases y'
              · exact absurd y' (g.dj j i a z m)
        have g3 := g1'.alter (o := .sh d) (lo := []) hv (.sh f4) List.nodup_nil (fun a m => by simp at m)
        rw [List.set_set] at g3
        have e3 : (fun j => if j = i then ([] : List Addr) else (fun j => if j = i then [] else fp j) j) = fun j => if j = i then [] else fp j := by
          funext j
          by_cases z : j = i
          · rw [if_pos z, if_pos z]
          · rw [if_neg z]
        rw [e3] at g3
        exact g3
      refine wE_of hp ⟨v, hv, d, _, F2, _, f4, g2, ⟨f1, fun _ _ _ z => z, fun a o z => ⟨o, z⟩, fun a z => ?_, fun a w z => ?_⟩, q⟩
      · rcases if_in z with z | z
        · simp at z
        · exact .inl z
      · rcases f3 a w z with y | y
        · exact .inl y
        · exact .inr (.inl ⟨i, y⟩)
    · exact q.elim
  · exact q.elim
theorem jo_v (hp : PE X (.Name x pos) (tVar i)) : JO X B (.Name x pos) (oV i) := by
  refine ⟨fun σ ρ F H fp Q g q => ?_⟩
  unfold oV at q
  split at q
  · rename_i o e
    obtain ⟨v, hv, r⟩ := g.loc i o e
    refine wE_of hp ⟨v, hv, o, _, F, _, fp i, r, g.nd i, fun a m => ⟨g.df i a m, fun j mj => ?_⟩, g.drop i, ⟨Same.refl F, fun _ _ _ z => z, fun a o z => ⟨o, z⟩, fun a z => ?_, fun a w z => .inl z⟩, q⟩
    · have mj : a ∈ (if j = i then [] else fp j) := mj
      by_cases z : j = i
      · rw [if_pos z] at mj; simp at mj
      · rw [if_neg z] at mj; exact g.dj j i a z mj m
    · rcases z with z | z
      · exact .inl ⟨i, z⟩
      · rcases if_in z with z | z
        · simp at z
        · exact .inl z
  · exact q.elim
/-- a value that is data in any heap -/
theorem je_c {e : Expr} {v : V} {d : D} (hp : PE X e (tC v)) (hd : ∀ F, Dq (kb X B) F v d) : JE X B e (eC d) :=
  ⟨fun σ ρ F H fp Q g q => wE_of hp ⟨d, ρ, F, fp, hd F, g, .refl, q⟩⟩
theorem je_int {i : Int} {j pos} : JE X B (.Constant (.int i) j pos) (eC (.int i)) := je_c pe_int fun _ => .int i
theorem je_bl {b : Bool} {j pos} : JE X B (.Constant (.bool b) j pos) (eC (.bool b)) := je_c pe_bl fun _ => .bl b
theorem je_non {j pos} : JE X B (.Constant .none j pos) (eC .none) := je_c pe_non fun _ => .non
theorem je_str {x : Str} {j pos} : JE X B (.Constant (.str x) j pos) (eC (.str x)) := je_c pe_str fun _ => .str x
end

/-! ### operands that are read -/
/-- the thing itself may be a name's own; what lies in it is frozen -/
inductive Rq (K : Kb) (F H : Hp) : V → D → Prop
  | dp {v : V} {d : D} : Dq K F v d → Rq K F H v d
  | fl {a : Addr} {vs : List V} {ds : List D} : H a = some (.lst vs) → DqAll K F vs ds → Rq K F H (.ref a) (.list ds)
inductive RqAll (K : Kb) (F H : Hp) : List V → List D → Prop
  | nil : RqAll K F H [] []
  | cons {v : V} {vs : List V} {d : D} {ds : List D} : Rq K F H v d → RqAll K F H vs ds → RqAll K F H (v :: vs) (d :: ds)
section
variable {K : Kb} {σ : L2.St} {ρ : Ev} {F F' H H' : Hp} {fp : Nat → List Addr}
theorem res_q {v : V} {p : Op} {d : D} (g : Good K σ ρ F H fp) (o : OpIs K F σ v p) (e : res ρ p = some d) : Rq K F H v d := by
  cases p with
  | val d' => cases e; exact .dp (Dq.vw o)
  | pl i =>
    have o' : σ[i]? = some (some v) := o
    simp only [res] at e
    cases eo : ρ[i]? with
    | none => rw [eo] at e; cases e
    | some w =>
      cases w with
      | none => rw [eo] at e; cases e
      | some ob =>
        rw [eo] at e
        obtain ⟨v', hv, r⟩ := g.loc i ob eo
        rw [o'] at hv; cases hv
        generalize fp i = l at r
        cases ob with
        | sh d' => cases e; cases r with | sh r => exact .dp r.vw
        | fl ds => cases e; cases r with | fl h1 h2 => exact .fl h1 h2
        | _ => cases e
theorem Rq.dpH {v : V} {d : D} (r : Rq K F H v d) (s : Same F H) : Dq K H v d := by
  cases r with
  | dp h => exact h.mono s
  | fl h1 h2 => exact .lst (.inl (.inl h1)) (h2.mono s)
theorem Rq.list {v : V} {ds : List D} (r : Rq K F H v (.list ds)) (s : Same F H) : ∃ a vs, v = .ref a ∧ SqL K.K H a vs ∧ DqAll K F vs ds := by
  cases r with
  | dp h => cases h with | lst h1 h2 => exact ⟨_, _, rfl, s.seq h1, h2⟩
  | fl h1 h2 => exact ⟨_, _, rfl, .inl (.inl h1), h2⟩
theorem Rq.tup {v : V} {ds : List D} (r : Rq K F H v (.tuple ds)) (s : Same F H) : ∃ a vs, v = .ref a ∧ SqT K.K H a vs ∧ DqAll K F vs ds := by
  cases r with
  | dp h => cases h with | tup h1 h2 => exact ⟨_, _, rfl, same_sqT s h1, h2⟩
theorem Rq.tupD {v : V} {ds : List D} (r : Rq K F H v (.tuple ds)) : Dq K F v (.tuple ds) := by
  cases r with
  | dp h => exact h
theorem Rq.int {v : V} {i : Int} (r : Rq K F H v (.int i)) : v = .int i := by cases r with | dp h => cases h; rfl
theorem Rq.str {v : V} {i : Str} (r : Rq K F H v (.str i)) : v = .str i := by cases r with | dp h => cases h; rfl
theorem Rq.bool {v : V} {i : Bool} (r : Rq K F H v (.bool i)) : v = .bl i := by cases r with | dp h => cases h; rfl
theorem Rq.none {v : V} (r : Rq K F H v .none) : v = .non := by cases r with | dp h => cases h; rfl
end

/-- a two-place operation over trees stands for the one over heaps -/
abbrev P2 := D → D → (O → Prop) → Prop
abbrev P1 := D → (O → Prop) → Prop
abbrev PN := List D → (O → Prop) → Prop
def Fin (K : Kb) (F H : Hp) (Q : O → Prop) : VK := fun z H' => ∃ F' o lo, RO K F' H' z o lo ∧ Nx F H F' H' lo ∧ Q o
def Op2S (K : Kb) (r : R2) (p : P2) : Prop := ∀ (F H : Hp) (v w : V) (d e : D) (Q : O → Prop) (R : VK), Same F H → Rq K F H v d → Rq K F H w e → p d e Q → (∀ z H', Fin K F H Q z H' → R z H') → r v w H R
def Op1S (K : Kb) (r : V → Hp → VK → Prop) (p : P1) : Prop := ∀ (F H : Hp) (v : V) (d : D) (Q : O → Prop) (R : VK), Same F H → Rq K F H v d → p d Q → (∀ z H', Fin K F H Q z H' → R z H') → r v H R
def OpNS (K : Kb) (r : List V → Hp → VK → Prop) (p : PN) : Prop := ∀ (F H : Hp) (vs : List V) (ds : List D) (Q : O → Prop) (R : VK), Same F H → RqAll K F H vs ds → p ds Q → (∀ z H', Fin K F H Q z H' → R z H') → r vs H R
theorem fin_sh {K : Kb} {F H : Hp} {Q : O → Prop} {z : V} {d : D} (s : Same F H) (h : Dq K F z d) (q : Q (.sh d)) : Fin K F H Q z H := ⟨F, .sh d, [], .sh h, .refl s, q⟩
theorem same_upd {H : Hp} {p : Addr} {o : HO} (h : H p = none) : Same H (upd H p o) := fun b x e => by rw [upd_ne (ne_of_none e h)]; exact e
/-- a new list -/
theorem fin_list {K : Kb} {F H : Hp} {Q : O → Prop} {p : Addr} {vs : List V} {ds : List D} (s : Same F H) (n : H p = none) (h : DqAll K F vs ds) (q : Q (.fl ds)) : Fin K F H Q (.ref p) (upd H p (.lst vs)) := by
  refine ⟨F, .fl ds, [p], .fl upd_same h, ⟨Same.refl F, same_upd n, s.trans (same_upd n), fun _ _ z => .inl z, fun a m => ?_, by simp⟩, q⟩
  simp at m
  subst m
  exact ⟨n, s.free n⟩
/-- a new tuple -/
theorem fin_tup {K : Kb} {F H : Hp} {Q : O → Prop} {p : Addr} {vs : List V} {ds : List D} (s : Same F H) (n : H p = none) (h : DqAll K F vs ds) (q : Q (.sh (.tuple ds))) : Fin K F H Q (.ref p) (upd H p (.tup vs)) := by
  have nF : F p = none := s.free n
  refine ⟨upd F p (.tup vs), .sh (.tuple ds), [], .sh (.tup (.inl (.inl upd_same)) (h.mono (same_upd nF))), ⟨same_upd nF, same_upd n, fun b x e => ?_, fun b x e => ?_, fun a m => by simp at m, List.nodup_nil⟩, q⟩
  · by_cases z : b = p
    · subst z; rw [upd_same] at e; cases e; exact upd_same
    · rw [upd_ne z] at e; rw [upd_ne z]; exact s b x e
  · by_cases z : b = p
    · subst z; exact .inr n
    · rw [upd_ne z] at e; exact .inl e
section
variable {K : Kb} {σ : L2.St} {ρ : Ev} {F H : Hp} {fp : Nat → List Addr}
theorem Good.fin (g : Good K σ ρ F H fp) {Q : O → Ev → Prop} {z : V} {H' : Hp} (h : Fin K F H (fun o => Q o ρ) z H') : QO K σ F H (inL fp) Q z H' := by
  obtain ⟨F', o, lo, h1, h2, h3⟩ := h
  exact ⟨o, ρ, F', fp, lo, h1, h2.nd, g.nxOut h2, g.nx h2, g.nxExt h2, h3⟩
end

def o2 (p : P2) (ta tb : TPx) : TPo := fun ρ Q => ta ρ fun x ρ1 => tb ρ1 fun y ρ2 => match res ρ2 x, res ρ2 y with
  | some d, some e => p d e fun o => Q o ρ2
  | _, _ => False
def o1 (p : P1) (ta : TPx) : TPo := fun ρ Q => ta ρ fun x ρ1 => match res ρ1 x with
  | some d => p d fun o => Q o ρ1
  | _ => False
def resAll (ρ : Ev) : List Op → Option (List D)
  | [] => some []
  | p :: ps => match res ρ p, resAll ρ ps with
    | some d, some ds => some (d :: ds)
    | _, _ => none
def oN (p : PN) (ta : TPs) : TPo := fun ρ Q => ta ρ fun xs ρ1 => match resAll ρ1 xs with
  | some ds => p ds fun o => Q o ρ1
  | _ => False
theorem resAll_q {K : Kb} {σ : L2.St} {ρ : Ev} {F H : Hp} {fp : Nat → List Addr} (g : Good K σ ρ F H fp) : ∀ {vs : List V} {ps : List Op} {ds : List D}, OpsAre K F σ vs ps → resAll ρ ps = some ds → RqAll K F H vs ds
  | [], [], _, .nil, e => by cases e; exact .nil
  | v :: vs, p :: ps, ds, .cons h t, e => by
    unfold resAll at e
    split at e
    · rename_i d ds' e1 e2
      cases e
      exact .cons (res_q g h e1) (resAll_q g t e2)
    · cases e
section
variable {X : Cx} {B : Hp} {a b e : Expr} {es : List Expr} {ta tb : TPx} {ts : TPs}
/-- the test's answer is a bool -/
theorem jo_2 {r : R2} {p : P2} (hE : ∀ {ta tb : TE}, PE X a ta → PE X b tb → PE X e (tOp r ta tb)) (hr : Op2S (kb X B) r p) (ha : JX X B a ta) (hb : JX X B b tb) : JO X B e (o2 p ta tb) := by
  refine ⟨fun σ ρ F H fp Q g q => wE_of (hE pe_w pe_w) (wE_mono (ha.run σ ρ F H fp _ g q) fun v H1 ⟨x, ρ1, F1, fp1, x1, g1, e1, q1⟩ => ?_)⟩
  refine wE_mono (hb.run σ ρ1 F1 H1 fp1 _ g1 q1) fun w H2 ⟨y, ρ2, F2, fp2, y2, g2, e2, q2⟩ => ?_
  dsimp only at q2
  cases hx : res ρ2 x with
  | none => rw [hx] at q2; exact q2.elim
  | some d =>
    cases hy : res ρ2 y with
    | none => rw [hx, hy] at q2; exact q2.elim
    | some d' =>
      rw [hx, hy] at q2
      exact hr F2 H2 v w d d' _ _ g2.same (res_q g2 (x1.mono e2.f) hx) (res_q g2 y2 hy) q2 fun z H3 fz => (g2.fin fz).ext (e1.trans e2)
theorem jo_1 {r : V → Hp → VK → Prop} {p : P1} (hE : ∀ {ta : TE}, PE X a ta → PE X e (tUn r ta)) (hr : Op1S (kb X B) r p) (ha : JX X B a ta) : JO X B e (o1 p ta) := by
  refine ⟨fun σ ρ F H fp Q g q => wE_of (hE pe_w) (wE_mono (ha.run σ ρ F H fp _ g q) fun v H1 ⟨x, ρ1, F1, fp1, x1, g1, e1, q1⟩ => ?_)⟩
  dsimp only at q1
  cases hx : res ρ1 x with
  | none => rw [hx] at q1; exact q1.elim
  | some d =>
    rw [hx] at q1
    exact hr F1 H1 v d _ _ g1.same (res_q g1 x1 hx) q1 fun z H3 fz => (g1.fin fz).ext e1
theorem jo_N {r : List V → Hp → VK → Prop} {p : PN} (hE : ∀ {ta : TA}, PA X es ta → PE X e (tCB r ta)) (hr : OpNS (kb X B) r p) (ha : JS X B es ts) : JO X B e (oN p ts) := by
  refine ⟨fun σ ρ F H fp Q g q => wE_of (hE pa_w) (wA_mono (ha.run σ ρ F H fp _ g q) fun v H1 ⟨x, ρ1, F1, fp1, x1, g1, e1, q1⟩ => ?_)⟩
  dsimp only at q1
  cases hx : resAll ρ1 x with
  | none => rw [hx] at q1; exact q1.elim
  | some d =>
    rw [hx] at q1
    exact hr F1 H1 v d _ _ g1.same (resAll_q g1 x1 hx) q1 fun z H3 fz => (g1.fin fz).ext e1
/-! ### argument lists -/
def sNil : TPs := fun ρ Q => Q [] ρ
def sCons (ta : TPx) (tr : TPs) : TPs := fun ρ Q => ta ρ fun x ρ1 => tr ρ1 fun xs ρ2 => Q (x :: xs) ρ2
theorem js_nil : JS X B [] sNil := ⟨fun σ ρ F H fp Q g q => wA_of pa_nil ⟨[], ρ, F, fp, .nil, g, .refl, q⟩⟩
theorem js_cons (ha : JX X B e ta) (hr : JS X B es ts) (hs : starEach (e :: es) X.env = (false, eval e X.env) :: starEach es X.env := by rfl) : JS X B (e :: es) (sCons ta ts) := by
  refine ⟨fun σ ρ F H fp Q g q => wA_of (pa_cons pe_w pa_w hs) (wE_mono (ha.run σ ρ F H fp _ g q) fun v H1 ⟨x, ρ1, F1, fp1, x1, g1, e1, q1⟩ => ?_)⟩
  refine wA_mono (hr.run σ ρ1 F1 H1 fp1 _ g1 q1) fun vs H2 ⟨xs, ρ2, F2, fp2, y2, g2, e2, q2⟩ => ?_
  exact ⟨x :: xs, ρ2, F2, fp2, .cons (x1.mono e2.f) y2, g2, e1.trans e2, q2⟩
end
end Pl
/-! The pure layer, part 3: operators by trees. -/
namespace Pl
open PySem PySem.Spec L2

/-- what a rule may lean on: room, no handled exception, no name twice -/
structure PX (X : Cx) : Prop where
  hu : X.A.units + 100 < cLine
  calm : X.calm = true
  nd : X.N.Nodup
  gd : X.A.guards = some []

/-! ### flat answers -/
theorem Rq.dpS {K : Kb} {F H : Hp} {v : V} {d : D} (r : Rq K F H v d) (s : Same F H) : Dq K H v d := r.dpH s
/-- ints -/
def pII (C : Int → Int → Prop) (g : Int → Int → D) : P2 := fun d e Q => match d, e with
  | .int i, .int j => C i j ∧ Q (.sh (g i j))
  | _, _ => False
theorem s_int {K : Kb} {C : Int → Int → Prop} {g : Int → Int → Int} : Op2S K (rI C fun i j => .int (g i j)) (pII C fun i j => .int (g i j)) := by
  intro F H v w d e Q R s rv rw' q k
  unfold pII at q
  split at q
  · exact ⟨_, _, rv.int, rw'.int, q.1, k _ _ (fin_sh s (.int _) q.2)⟩
  · exact q.elim
def pI0 (g : Int → Int → D) : P2 := fun d e Q => match d, e with
  | .int i, .int j => Q (.sh (g i j))
  | _, _ => False
theorem s_int0 {K : Kb} {g : Int → Int → Int} : Op2S K (rI0 fun i j => .int (g i j)) (pI0 fun i j => .int (g i j)) := by
  intro F H v w d e Q R s rv rw' q k
  unfold pI0 at q
  split at q
  · exact ⟨_, _, rv.int, rw'.int, k _ _ (fin_sh s (.int _) q)⟩
  · exact q.elim

/-! ### + -/
/-- xs + ys of lists, read in any way -/
def rCatL (K : PySem.W.Frag) : R2 := fun x y H Q => ∃ l b xs zs, x = .ref l ∧ y = .ref b ∧ SqL K H l xs ∧ SqL K H b zs ∧ xs.length + zs.length ≤ sizeLine ∧ ∀ p, H p = none → Q (.ref p) (upd H p (.lst (xs ++ zs)))
theorem op_catL {X : Cx} : OpR X (binaryOp .Add) (rCatL X.K) := by
  intro pins s σ H x y v u Q I rx ry h
  obtain ⟨l, b, xs, zs, rfl, rfl, hH, hB, hz, q⟩ := h
  cases rx
  cases ry
  obtain ⟨its, r, p1, hl⟩ := I.list hH
  obtain ⟨its2, r2, p2, hl2⟩ := I.list hB
  have e1 := r.length
  have e2 := r2.length
  obtain ⟨⟨cls, dd, data, sl⟩, ho, hc, n, hd⟩ := id p1.isList
  obtain ⟨⟨cls2, dd2, data2, sl2⟩, ho2, hc2, n2, hd2⟩ := id p2.isList
  simp only at hc hd hc2 hd2
  subst hc hd hc2 hd2
  have e : its.toArray ++ its2.toArray = (its ++ its2).toArray := by simp
  refine PySem.concat_meets ⟨_, ho, rfl⟩ ⟨_, ho2, rfl⟩ PySem.noFill_list_add PySem.seq_list_add PySem.F.slot_list_add PySem.F.entry_list_add (PySem.F.args_list_add_2 _ _) (PyProof.Rows.list_addW l b its.toArray its2.toArray n n2 dd dd2 sl sl2 (by rw [List.size_toArray, List.size_toArray]; omega)) ⟨ho, ho2, ?_⟩
  rw [e]
  exact ⟨.ref _, _, I.lnew (t' := s.toks) (r.append r2) (by rw [List.length_append]; omega), rfl, q _ I.fresh⟩
def rAdd4 (K : PySem.W.Frag) : R2 := fun x y H Q => rI0 (fun i j => .int (i + j)) x y H Q ∨ (∃ i j, x = .str i ∧ y = .str j ∧ i.length + j.length ≤ sizeLine ∧ Q (.str (i ++ j)) H) ∨ rCatL K x y H Q ∨ rCatT K x y H Q
theorem op_add4 {X : Cx} : OpR X (binaryOp .Add) (rAdd4 X.K) := op_add.or (op_add_str.or (op_catL.or op_catT))
def pAdd : P2 := fun d e Q => match d, e with
  | .int i, .int j => Q (.sh (.int (i + j)))
  | .str a, .str b => a.length + b.length ≤ sizeLine ∧ Q (.sh (.str (a ++ b)))
  | .list xs, .list ys => xs.length + ys.length ≤ sizeLine ∧ Q (.fl (xs ++ ys))
  | .tuple xs, .tuple ys => xs ≠ [] ∧ ys ≠ [] ∧ xs.length + ys.length ≤ sizeLine ∧ Q (.sh (.tuple (xs ++ ys)))
  | _, _ => False
theorem s_add {K : Kb} : Op2S K (rAdd4 K.K) pAdd := by
  intro F H v w d e Q R s rv rw' q k
  unfold pAdd at q
  split at q
  · exact .inl ⟨_, _, rv.int, rw'.int, k _ _ (fin_sh s (.int _) q)⟩
  · exact .inr (.inl ⟨_, _, rv.str, rw'.str, q.1, k _ _ (fin_sh s (.str _) q.2)⟩)
  · obtain ⟨a, vs, rfl, h1, h2⟩ := rv.list s
    obtain ⟨b, ws, rfl, h3, h4⟩ := rw'.list s
    exact .inr (.inr (.inl ⟨a, b, vs, ws, rfl, rfl, h1, h3, by rw [h2.len, h4.len]; exact q.1, fun p n => k _ _ (fin_list s n (h2.append h4) q.2)⟩))
  · obtain ⟨a, vs, rfl, h1, h2⟩ := rv.tup s
    obtain ⟨b, ws, rfl, h3, h4⟩ := rw'.tup s
    refine .inr (.inr (.inr ⟨a, b, vs, ws, rfl, rfl, h1, h3, fun z => q.1 ?_, by rw [h2.len, h4.len]; exact q.2.2.1, fun z => absurd ?_ q.2.1, fun _ p n => k _ _ (fin_tup s n (h2.append h4) q.2.2.2)⟩))
    · subst z; cases h2; rfl
    · subst z; cases h4; rfl
  · exact q.elim

/-! ### == and != -/
mutual
theorem dp_plain {K : PySem.W.Frag} {F : Hp} : ∀ (d : PyData) (v : V), Dp K F v d → d.plain = true
  | .none, _, _ => rfl
  | .bool _, _, _ => rfl
  | .int _, _, _ => rfl
  | .str _, _, _ => rfl
  | .list ds, _, h => by
    cases h with
    | lst _ h => simp only [PyData.plain]; exact dp_plainAll ds _ h
  | .tuple ds, _, h => by
    cases h with
    | tup _ h => simp only [PyData.plain]; exact dp_plainAll ds _ h
  | .dict _, _, h => by cases h
theorem dp_plainAll {K : PySem.W.Frag} {F : Hp} : ∀ (ds : List PyData) (vs : List V), DpAll K F vs ds → PyData.plainAll ds = true
  | [], _, _ => rfl
  | d :: ds, _, h => by
    cases h with
    | cons h1 h2 => simp only [PyData.plainAll, dp_plain d _ h1, dp_plainAll ds _ h2, Bool.and_self]
end
def rEqP (K : PySem.W.Frag) (n : Bool) : R2 := fun x y H Q => ∃ d e, Dp K H x d ∧ Dp K H y e ∧ min d.depth e.depth ≤ 64 ∧ Q (.bl (if n then !PyData.eqv d e else PyData.eqv d e)) H
theorem op_eqP {X : Cx} (px : PX X) : OpR X (compareOp .Eq) (rEqP X.K false) := by
  intro pins s σ H x y v u Q I rx ry h
  obtain ⟨d, e, hd, he, hz, q⟩ := h
  obtain ⟨as, r1⟩ := Dp.reads I d x v hd rx
  obtain ⟨bs, r2⟩ := Dp.reads I e y u he ry
  have := px.hu
  exact SeqAt.eq_plain r1 r2 (dp_plain d x hd) (dp_plain e y he) (by omega) ⟨.bl _, H, I, rfl, q⟩
theorem op_neP {X : Cx} (px : PX X) : OpR X (compareOp .NotEq) (rEqP X.K true) := by
  intro pins s σ H x y v u Q I rx ry h
  obtain ⟨d, e, hd, he, hz, q⟩ := h
  obtain ⟨as, r1⟩ := Dp.reads I d x v hd rx
  obtain ⟨bs, r2⟩ := Dp.reads I e y u he ry
  have := px.hu
  exact SeqAt.ne_plain r1 r2 (dp_plain d x hd) (dp_plain e y he) (by omega) ⟨.bl _, H, I, rfl, q⟩
def pEq : P2 := fun d e Q => min (er d).depth (er e).depth ≤ 64 ∧ Q (.sh (.bool ((er d).eqv (er e))))
def pNe : P2 := fun d e Q => min (er d).depth (er e).depth ≤ 64 ∧ Q (.sh (.bool (!(er d).eqv (er e))))
theorem s_eq {K : Kb} : Op2S K (rEqP K.K false) pEq := fun F H v w d e Q R s rv rw' q k => ⟨er d, er e, (rv.dpH s).dp, (rw'.dpH s).dp, q.1, k _ _ (fin_sh s (.bl _) q.2)⟩
theorem s_ne {K : Kb} : Op2S K (rEqP K.K true) pNe := fun F H v w d e Q R s rv rw' q k => ⟨er d, er e, (rv.dpH s).dp, (rw'.dpH s).dp, q.1, k _ _ (fin_sh s (.bl _) q.2)⟩

/-! ### <, <=, >, >= of ints and of texts -/
def strLt (a b : Str) : Bool := decide (a.cps.toList < b.cps.toList)
def strLe (a b : Str) : Bool := !decide (b.cps.toList < a.cps.toList)
def pLt : P2 := fun d e Q => match d, e with
  | .int i, .int j => Q (.sh (.bool (decide (i < j))))
  | .str a, .str b => Q (.sh (.bool (strLt a b)))
  | _, _ => False
def pLe : P2 := fun d e Q => match d, e with
  | .int i, .int j => Q (.sh (.bool (decide (i ≤ j))))
  | .str a, .str b => Q (.sh (.bool (strLe a b)))
  | _, _ => False
def pGt : P2 := fun d e Q => match d, e with
  | .int i, .int j => Q (.sh (.bool (decide (j < i))))
  | _, _ => False
def pGe : P2 := fun d e Q => match d, e with
  | .int i, .int j => Q (.sh (.bool (decide (j ≤ i))))
  | _, _ => False
def rLt2 : R2 := fun x y H Q => rI0 (fun i j => .bl (decide (i < j))) x y H Q ∨ ∃ i j, x = .str i ∧ y = .str j ∧ Q (.bl (decide (i.cps.toList < j.cps.toList))) H
def rLe2 : R2 := fun x y H Q => rI0 (fun i j => .bl (decide (i ≤ j))) x y H Q ∨ ∃ i j, x = .str i ∧ y = .str j ∧ Q (.bl (!decide (j.cps.toList < i.cps.toList))) H
theorem op_lt2 {X : Cx} : OpR X (compareOp .Lt) rLt2 := op_lt.or op_lt_str
theorem op_le2 {X : Cx} : OpR X (compareOp .LtE) rLe2 := op_le.or op_le_str
theorem s_lt {K : Kb} : Op2S K rLt2 pLt := by
  intro F H v w d e Q R s rv rw' q k
  unfold pLt at q
  split at q
  · exact .inl ⟨_, _, rv.int, rw'.int, k _ _ (fin_sh s (.bl _) q)⟩
  · exact .inr ⟨_, _, rv.str, rw'.str, k _ _ (fin_sh s (.bl _) q)⟩
  · exact q.elim
theorem s_le {K : Kb} : Op2S K rLe2 pLe := by
  intro F H v w d e Q R s rv rw' q k
  unfold pLe at q
  split at q
  · exact .inl ⟨_, _, rv.int, rw'.int, k _ _ (fin_sh s (.bl _) q)⟩
  · exact .inr ⟨_, _, rv.str, rw'.str, k _ _ (fin_sh s (.bl _) q)⟩
  · exact q.elim
theorem s_gt {K : Kb} : Op2S K (rI0 fun i j => .bl (decide (j < i))) pGt := by
  intro F H v w d e Q R s rv rw' q k
  unfold pGt at q
  split at q
  · exact ⟨_, _, rv.int, rw'.int, k _ _ (fin_sh s (.bl _) q)⟩
  · exact q.elim
theorem s_ge {K : Kb} : Op2S K (rI0 fun i j => .bl (decide (j ≤ i))) pGe := by
  intro F H v w d e Q R s rv rw' q k
  unfold pGe at q
  split at q
  · exact ⟨_, _, rv.int, rw'.int, k _ _ (fin_sh s (.bl _) q)⟩
  · exact q.elim

/-! ### in, not in: lists, tuples; one sign in a text -/
def inD (n : Bool) (d : PyData) (ds : List PyData) : Bool := if n then !(ds.any fun y => PyData.eqv y d) else ds.any fun y => PyData.eqv y d
def rInP (K : PySem.W.Frag) (n : Bool) : R2 := fun x y H Q => ∃ d ds, Dp K H x d ∧ (Dp K H y (.list ds) ∨ Dp K H y (.tuple ds)) ∧ min (PyData.depthAll ds) d.depth ≤ 64 ∧ Q (.bl (inD n d ds)) H
theorem op_inP {X : Cx} (px : PX X) : OpR X (compareOp .In) (rInP X.K false) := by
  intro pins s σ H x y v u Q I rx ry h
  obtain ⟨d, ds, hd, he, hz, q⟩ := h
  obtain ⟨as, r1⟩ := Dp.reads I d x v hd rx
  have := px.hu
  rcases he with he | he
  · obtain ⟨bs, r2⟩ := Dp.reads I _ y u he ry
    have pl := dp_plain _ y he
    simp only [PyData.plain] at pl
    exact SeqAt.in_list_data r2 r1 pl (dp_plain d x hd) (by omega) ⟨.bl _, H, I, rfl, q⟩
  · obtain ⟨bs, r2⟩ := Dp.reads I _ y u he ry
    have pl := dp_plain _ y he
    simp only [PyData.plain] at pl
    exact SeqAt.in_tuple_data r2 r1 pl (dp_plain d x hd) (by omega) ⟨.bl _, H, I, rfl, q⟩
theorem op_notInP {X : Cx} (px : PX X) : OpR X (compareOp .NotIn) (rInP X.K true) := by
  intro pins s σ H x y v u Q I rx ry h
  obtain ⟨d, ds, hd, he, hz, q⟩ := h
  obtain ⟨as, r1⟩ := Dp.reads I d x v hd rx
  have := px.hu
  rcases he with he | he
  · obtain ⟨bs, r2⟩ := Dp.reads I _ y u he ry
    have pl := dp_plain _ y he
    simp only [PyData.plain] at pl
    exact SeqAt.notIn_list_data r2 r1 pl (dp_plain d x hd) (by omega) ⟨.bl _, H, I, rfl, q⟩
  · obtain ⟨bs, r2⟩ := Dp.reads I _ y u he ry
    have pl := dp_plain _ y he
    simp only [PyData.plain] at pl
    exact SeqAt.notIn_tuple_data r2 r1 pl (dp_plain d x hd) (by omega) ⟨.bl _, H, I, rfl, q⟩
/-- one sign -/
def sgn (c : Nat) : Str := ⟨#[c]⟩
def rInS (n : Bool) : R2 := fun x y H Q => ∃ (c : Nat) (z : Str), x = .str ⟨#[c]⟩ ∧ y = .str z ∧ Q (.bl (if n then !decide (c ∈ z.cps.toList) else decide (c ∈ z.cps.toList))) H
def rIn2 (K : PySem.W.Frag) (n : Bool) : R2 := fun x y H Q => rInP K n x y H Q ∨ rInS n x y H Q
theorem op_in2 {X : Cx} (px : PX X) : OpR X (compareOp .In) (rIn2 X.K false) := (op_inP px).or op_in_sign
theorem op_notIn2 {X : Cx} (px : PX X) : OpR X (compareOp .NotIn) (rIn2 X.K true) := (op_notInP px).or op_notIn_sign
def pIn (n : Bool) : P2 := fun d e Q => match e with
  | .list ds => min (PyData.depthAll (ds.map er)) (er d).depth ≤ 64 ∧ Q (.sh (.bool (inD n (er d) (ds.map er))))
  | .tuple ds => min (PyData.depthAll (ds.map er)) (er d).depth ≤ 64 ∧ Q (.sh (.bool (inD n (er d) (ds.map er))))
  | .str z => match d with
    | .str y => ∃ c, y = sgn c ∧ Q (.sh (.bool (if n then !decide (c ∈ z.cps.toList) else decide (c ∈ z.cps.toList))))
    | _ => False
  | _ => False
theorem er_list {K : Kb} {F : Hp} {v : V} {ds : List D} (h : Dq K F v (.list ds)) : Dp K.K F v (.list (ds.map er)) := by rw [← erAll_map]; exact h.dp
theorem er_tup {K : Kb} {F : Hp} {v : V} {ds : List D} (h : Dq K F v (.tuple ds)) : Dp K.K F v (.tuple (ds.map er)) := by rw [← erAll_map]; exact h.dp
theorem s_in {K : Kb} {n : Bool} : Op2S K (rIn2 K.K n) (pIn n) := by
  intro F H v w d e Q R s rv rw' q k
  unfold pIn at q
  split at q
  · exact .inl ⟨er d, _, (rv.dpH s).dp, .inl (er_list (rw'.dpH s)), q.1, k _ _ (fin_sh s (.bl _) q.2)⟩
  · exact .inl ⟨er d, _, (rv.dpH s).dp, .inr (er_tup (rw'.dpH s)), q.1, k _ _ (fin_sh s (.bl _) q.2)⟩
  · split at q
    · obtain ⟨c, rfl, q⟩ := q
      exact .inr ⟨c, _, rv.str, rw'.str, k _ _ (fin_sh s (.bl _) q)⟩
    · exact q.elim
  · exact q.elim

/-! ### is None -/
def isNon : D → Bool
  | .none => true
  | _ => false
def pIsN : P2 := fun d e Q => match e with
  | .none => Q (.sh (.bool (isNon d)))
  | _ => False
def pNotN : P2 := fun d e Q => match e with
  | .none => Q (.sh (.bool (!isNon d)))
  | _ => False
theorem Rq.isNon {K : Kb} {F H : Hp} {v : V} {d : D} (r : Rq K F H v d) : decide (v = .non) = isNon d := by
  cases r with
  | dp h => cases h <;> rfl
  | fl _ _ => rfl
theorem s_isN {K : Kb} : Op2S K (fun x y H Q => y = .non ∧ Q (.bl (decide (x = .non))) H) pIsN := by
  intro F H v w d e Q R s rv rw' q k
  unfold pIsN at q
  split at q
  · exact ⟨rw'.none, by rw [rv.isNon]; exact k _ _ (fin_sh s (.bl _) q)⟩
  · exact q.elim
theorem s_notN {K : Kb} : Op2S K (fun x y H Q => y = .non ∧ Q (.bl (!decide (x = .non))) H) pNotN := by
  intro F H v w d e Q R s rv rw' q k
  unfold pNotN at q
  split at q
  · exact ⟨rw'.none, by rw [rv.isNon]; exact k _ _ (fin_sh s (.bl _) q)⟩
  · exact q.elim

/-! ### subscripts -/
def pIx : P2 := fun d e Q => match d, e with
  | .list ds, .int i => match atI ds i with
    | some x => Q (.sh x)
    | none => False
  | .tuple ds, .int i => match atI ds i with
    | some x => Q (.sh x)
    | none => False
  | .str z, .int i => z.length ≤ sizeLine ∧ match atI z.cps.toList i with
    | some c => Q (.sh (.str (sgn c)))
    | none => False
  | _, _ => False
theorem atI_all {K : Kb} {F : Hp} {vs : List V} {ds : List D} (h : DqAll K F vs ds) {i : Int} {d : D} (e : atI ds i = some d) : ∃ v, atI vs i = some v ∧ Dq K F v d := by
  unfold atI at e ⊢
  rw [h.len]
  cases q : ixN ds.length i with
  | none => rw [q] at e; cases e
  | some j =>
    rw [q] at e
    obtain ⟨v, hv, hd⟩ := h.get (i := j) e
    exact ⟨v, hv, hd⟩
theorem s_ix {K : Kb} : Op2S K (rIx K.K) pIx := by
  intro F H v w d e Q R s rv rw' q k
  unfold pIx at q
  split at q
  · rename_i ds i
    split at q
    · rename_i x ex
      obtain ⟨a, vs, rfl, h1, h2⟩ := rv.list s
      obtain ⟨v', hv, hd⟩ := atI_all h2 ex
      exact .inl ⟨a, vs, i, v', rfl, rw'.int, h1, hv, k _ _ (fin_sh s hd q)⟩
    · exact q.elim
  · rename_i ds i
    split at q
    · rename_i x ex
      obtain ⟨a, vs, rfl, h1, h2⟩ := rv.tup s
      obtain ⟨v', hv, hd⟩ := atI_all h2 ex
      exact .inr (.inl ⟨a, vs, i, v', rfl, rw'.int, h1, hv, k _ _ (fin_sh s hd q)⟩)
    · exact q.elim
  · rename_i z i
    obtain ⟨hz, q⟩ := q
    split at q
    · rename_i c ec
      exact .inr (.inr ⟨z, i, c, rv.str, rw'.int, hz, ec, k _ _ (fin_sh s (.str _) q)⟩)
    · exact q.elim
  · exact q.elim

/-! ### slices -/
abbrev TPp := Ev → (Option Int → Ev → Prop) → Prop
def wP (X : Cx) (e : Option Expr) : TO := fun σ H Q => ∀ pins s, Inv X pins σ H s → wpAny (model X.prog X.w) X.A (evalPart e X.env) (fun u s' => ∃ o H', Inv X pins σ H' s' ∧ IsPart u o ∧ Q o H') X.xe s
theorem po_w {X : Cx} {e : Option Expr} : PO X e (wP X e) := ⟨fun pins s σ H Q I h => h pins s I⟩
def QP (K : Kb) (σ : L2.St) (F H : Hp) (L : Addr → Prop) (Q : Option Int → Ev → Prop) : Option Int → Hp → Prop := fun b H' => ∃ ρ' F' fp', Good K σ ρ' F' H' fp' ∧ Ext F H L F' H' (inL fp') ∧ Q b ρ'
structure JP (X : Cx) (B : Hp) (e : Option Expr) (t : TPp) : Prop where
  run : ∀ (σ : L2.St) (ρ : Ev) (F H : Hp) (fp : Nat → List Addr) (Q : Option Int → Ev → Prop), Good (kb X B) σ ρ F H fp → t ρ Q → wP X e σ H (QP (kb X B) σ F H (inL fp) Q)
def tP0 : TPp := fun ρ Q => Q none ρ
def tP1 (t : TPe) : TPp := fun ρ Q => t ρ fun d ρ' => match d with
  | .int i => Q (some i) ρ'
  | _ => False
section
variable {X : Cx} {B : Hp} {e : Expr} {lo hi : Option Expr} {tl th : TPp} {ta : TPx} {te : TPe} {p2 pos : Pos}
theorem jp_0 : JP X B none tP0 := ⟨fun σ ρ F H fp Q g q pins s I => po_none.run pins s σ H _ I ⟨ρ, F, fp, g, .refl, q⟩⟩
theorem jp_1 (h : JE X B e te) : JP X B (some e) (tP1 te) := by
  refine ⟨fun σ ρ F H fp Q g q pins s I => (po_some pe_w).run pins s σ H _ I (wE_mono (h.run σ ρ F H fp _ g q) fun v H1 ⟨d, ρ1, F1, fp1, x1, g1, e1, q1⟩ => ?_)⟩
  cases d with
  | int i =>
    cases x1
    exact ⟨i, rfl, ρ1, F1, fp1, g1, e1, q1⟩
  | _ => exact False.elim q1
def cutD (xs : List D) (lo hi : Option Int) : List D := (xs.drop (HT.sIx xs.length 0 lo)).take (HT.sIx xs.length xs.length hi - HT.sIx xs.length 0 lo)
def pSl : D → Option Int → Option Int → (O → Prop) → Prop := fun d lo hi Q => match d with
  | .list ds => Q (.fl (cutD ds lo hi))
  | .str z => z.length ≤ sizeLine ∧ Q (.sh (.str (cutS z lo hi)))
  | .tuple ds => ¬ (HT.sIx ds.length 0 lo = 0 ∧ HT.sIx ds.length ds.length hi = ds.length) ∧ Q (.sh (.tuple (cutD ds lo hi)))
  | _ => False
theorem cut_all {K : Kb} {F : Hp} {vs : List V} {ds : List D} (h : DqAll K F vs ds) (lo hi : Option Int) : DqAll K F (cutV vs lo hi) (cutD ds lo hi) := by
  unfold cutV cutD
  rw [h.len]
  exact (h.drop _).take _
def rSl3 (K : PySem.W.Frag) : V → Option Int → Option Int → Hp → VK → Prop := fun x lo hi H Q => rSlL K x lo hi H Q ∨ (rSlS x lo hi H Q ∨ rSlT K x lo hi H Q)
theorem sl_3 : SlR X (rSl3 X.K) := sl_list.or (sl_str.or sl_tup)
def oSl (ta : TPx) (tl th : TPp) : TPo := fun ρ Q => ta ρ fun x ρ1 => tl ρ1 fun lo ρ2 => th ρ2 fun hi ρ3 => match res ρ3 x with
  | some d => pSl d lo hi fun o => Q o ρ3
  | none => False
theorem jo_sl (ha : JX X B e ta) (hl : JP X B lo tl) (hh : JP X B hi th) : JO X B (.Subscript e (.Slice lo hi none p2) pos) (oSl ta tl th) := by
  refine ⟨fun σ ρ F H fp Q g q => wE_of (pe_slice sl_3 pe_w po_w po_w) (wE_mono (ha.run σ ρ F H fp _ g q) fun v H1 ⟨x, ρ1, F1, fp1, x1, g1, e1, q1⟩ => ?_)⟩
  intro pins s I
  refine wpAny_mono (hl.run σ ρ1 F1 H1 fp1 _ g1 q1 pins s I) (fun u s' ⟨o, H', I', ip, ρ2, F2, fp2, g2, e2, q2⟩ => ⟨o, H', I', ip, ?_⟩) (fun _ _ z => z)
  intro pins' s2 I2
  refine wpAny_mono (hh.run σ ρ2 F2 H' fp2 _ g2 q2 pins' s2 I2) (fun u2 s3 ⟨o2, H3, I3, ip3, ρ3, F3, fp3, g3, e3, q3⟩ => ⟨o2, H3, I3, ip3, ?_⟩) (fun _ _ z => z)
  have E := (e1.trans e2).trans e3
  have x3 := x1.mono (e2.f.trans e3.f)
  dsimp only at q3
  cases hx : res ρ3 x with
  | none => rw [hx] at q3; exact q3.elim
  | some d =>
    rw [hx] at q3
    have rv := res_q g3 x3 hx
    cases d with
    | list ds =>
      obtain ⟨a, vs, rfl, h1, h2⟩ := rv.list g3.same
      exact .inl ⟨a, vs, rfl, h1, fun p n => (g3.fin (fin_list g3.same n (cut_all h2 _ _) q3)).ext E⟩
    | str z => exact .inr (.inl ⟨_, rv.str, q3.1, (g3.fin (fin_sh g3.same (.str _) q3.2)).ext E⟩)
    | tuple ds =>
      obtain ⟨a, vs, rfl, h1, h2⟩ := rv.tup g3.same
      exact .inr (.inr ⟨a, vs, rfl, h1, by rw [h2.len]; exact q3.1, fun p n => (g3.fin (fin_tup g3.same n (cut_all h2 _ _) q3.2)).ext E⟩)
    | _ => exact False.elim q3
end

/-! ### displays -/
def valsOf : List Op → Option (List D)
  | [] => some []
  | .val d :: ps => match valsOf ps with
    | some ds => some (d :: ds)
    | none => none
  | .pl _ :: _ => none
theorem vals_of {K : Kb} {F : Hp} {σ : L2.St} : ∀ {vs : List V} {ps : List Op} {ds : List D}, OpsAre K F σ vs ps → valsOf ps = some ds → DqAll K F vs ds
  | [], [], _, .nil, e => by cases e; exact .nil
  | v :: vs, .val d :: ps, ds, .cons h t, e => by
    unfold valsOf at e
    split at e
    · rename_i ds' e2
      cases e
      exact .cons h (vals_of t e2)
    · cases e
  | v :: vs, .pl i :: ps, ds, .cons h t, e => by cases e
def oTup (ts : TPs) : TPo := fun ρ Q => ts ρ fun ps ρ1 => match valsOf ps with
  | some ds => match Nat.ble ds.length 1000 with
    | true => Q (.sh (.tuple ds)) ρ1
    | false => False
  | none => False
def oLst (ts : TPs) : TPo := fun ρ Q => ts ρ fun ps ρ1 => match valsOf ps with
  | some ds => match Nat.ble ds.length 1000 with
    | true => Q (.fl ds) ρ1
    | false => False
  | none => False
theorem thousand {n : Nat} (h : Nat.ble n 1000 = true) : n ≤ sizeLine := by
  have h1 := Nat.le_of_ble_eq_true h
  have h2 := sizeLine_eq
  omega
section
variable {X : Cx} {B : Hp} {es : List Expr} {ts : TPs} {pos : Pos}
theorem jo_tup {x1} (h : JS X B es ts) : JO X B (.Tuple es x1 pos) (oTup ts) := by
  refine ⟨fun σ ρ F H fp Q g q => wE_of (pe_tup pa_w) (wA_mono (h.run σ ρ F H fp _ g q) fun vs H1 ⟨ps, ρ1, F1, fp1, x1, g1, e1, q1⟩ => ?_)⟩
  dsimp only at q1
  cases hx : valsOf ps with
  | none => rw [hx] at q1; exact q1.elim
  | some ds =>
    rw [hx] at q1
    dsimp only at q1
    cases hb : Nat.ble ds.length 1000 with
    | false => rw [hb] at q1; exact q1.elim
    | true =>
      rw [hb] at q1
      have da := vals_of x1 hx
      exact ⟨by rw [da.len]; exact thousand hb, fun p n => (g1.fin (fin_tup g1.same n da q1)).ext e1⟩
theorem jo_lst (h : JS X B es ts) : JO X B (.List es pos) (oLst ts) := by
  refine ⟨fun σ ρ F H fp Q g q => wE_of (pe_lst pa_w) (wA_mono (h.run σ ρ F H fp _ g q) fun vs H1 ⟨ps, ρ1, F1, fp1, x1, g1, e1, q1⟩ => ?_)⟩
  dsimp only at q1
  cases hx : valsOf ps with
  | none => rw [hx] at q1; exact q1.elim
  | some ds =>
    rw [hx] at q1
    dsimp only at q1
    cases hb : Nat.ble ds.length 1000 with
    | false => rw [hb] at q1; exact q1.elim
    | true =>
      rw [hb] at q1
      have da := vals_of x1 hx
      exact ⟨by rw [da.len]; exact thousand hb, fun p n => (g1.fin (fin_list g1.same n da q1)).ext e1⟩
end
end Pl
/-! The pure layer, part 4: tests, and/or/not, conditional expressions, calls of built-ins, methods of texts and tuples. -/
namespace Pl
open PySem PySem.Spec L2

/-! ### tests -/
/-- a value's answer as a test -/
def bO (t : TPo) : TPt := fun ρ Q => t ρ fun o ρ' => match o with
  | .sh (.bool b) => Q b ρ'
  | _ => False
def bE (t : TPe) : TPt := fun ρ Q => t ρ fun d ρ' => match d with
  | .bool b => Q b ρ'
  | _ => False
theorem QO.bool {K : Kb} {σ : L2.St} {F H H' : Hp} {L : Addr → Prop} {Q : Bool → Ev → Prop} {v : V} (q : QO K σ F H L (fun o ρ' => match o with
  | .sh (.bool b) => Q b ρ'
  | _ => False) v H') : ∃ k, v = .bl k ∧ QT K σ F H L Q k H' := by
  obtain ⟨o, ρ', F', fp', lo, h1, h2, h3, h4, h5, h6⟩ := q
  split at h6
  · cases h1 with
    | sh h1 =>
      cases h1
      exact ⟨_, rfl, ρ', F', fp', h4, h5.less fun c z => .inr z, h6⟩
  · exact h6.elim
theorem QD.bool {K : Kb} {σ : L2.St} {F H H' : Hp} {L : Addr → Prop} {Q : Bool → Ev → Prop} {v : V} (q : QD K σ F H L (fun o ρ' => match o with
  | .bool b => Q b ρ'
  | _ => False) v H') : ∃ k, v = .bl k ∧ QT K σ F H L Q k H' := by
  obtain ⟨o, ρ', F', fp', h1, h4, h5, h6⟩ := q
  split at h6
  · cases h1
    exact ⟨_, rfl, ρ', F', fp', h4, h5, h6⟩
  · exact h6.elim
def tAnd (t u : TPt) : TPt := fun ρ Q => t ρ fun c ρ1 => match c with
  | true => u ρ1 Q
  | false => Q false ρ1
def tOr (t u : TPt) : TPt := fun ρ Q => t ρ fun c ρ1 => match c with
  | true => Q true ρ1
  | false => u ρ1 Q
def tNot (t : TPt) : TPt := fun ρ Q => t ρ fun c ρ1 => Q (!c) ρ1
/-- a test as a value -/
def eT (t : TPt) : TPe := fun ρ Q => t ρ fun c ρ1 => Q (.bool c) ρ1
def eAnd (t u : TPe) : TPe := fun ρ Q => t ρ fun d ρ1 => match d with
  | .bool true => u ρ1 Q
  | .bool false => Q (.bool false) ρ1
  | _ => False
def eOr (t u : TPe) : TPe := fun ρ Q => t ρ fun d ρ1 => match d with
  | .bool true => Q (.bool true) ρ1
  | .bool false => u ρ1 Q
  | _ => False
def eNot (t : TPe) : TPe := fun ρ Q => t ρ fun d ρ1 => match d with
  | .bool b => Q (.bool !b) ρ1
  | _ => False
def oIf (t : TPt) (a b : TPo) : TPo := fun ρ Q => t ρ fun c ρ1 => match c with
  | true => a ρ1 Q
  | false => b ρ1 Q
def eIf (t : TPt) (a b : TPe) : TPe := fun ρ Q => t ρ fun c ρ1 => match c with
  | true => a ρ1 Q
  | false => b ρ1 Q
section
variable {X : Cx} {B : Hp} {a b c e : Expr} {rest : List Expr} {t u : TPt} {ta tb : TPe} {pos : Pos}
theorem JW.jt (h : JW X B e t) : JT X B e t := ⟨fun σ ρ F H fp Q g q pins s I => h.run σ ρ F H fp Q g q _ pins s I⟩
theorem jt_o {t : TPo} (h : JO X B e t) (he : ∀ whole, isTrue e X.env whole = (do let v ← whole; standAt e.pos; holding [v] (truthy v)) := by intro _; rfl) : JT X B e (bO t) :=
  ⟨fun σ ρ F H fp Q g q => wT_of (pt_val pe_w he) (wE_mono (h.run σ ρ F H fp _ g q) fun v H1 z => z.bool)⟩
theorem jt_e {t : TPe} (h : JE X B e t) (he : ∀ whole, isTrue e X.env whole = (do let v ← whole; standAt e.pos; holding [v] (truthy v)) := by intro _; rfl) : JT X B e (bE t) :=
  ⟨fun σ ρ F H fp Q g q => wT_of (pt_val pe_w he) (wE_mono (h.run σ ρ F H fp _ g q) fun v H1 z => z.bool)⟩
/-- a comparison as a test -/
theorem jt_2 {r : R2} {p : P2} {ta tb : TPx} (hT : ∀ {ta tb : TE}, PE X a ta → PE X b tb → PT X e (tTest (tOp r ta tb))) (hr : Op2S (kb X B) r p) (ha : JX X B a ta) (hb : JX X B b tb) : JT X B e (bO (o2 p ta tb)) := by
  refine ⟨fun σ ρ F H fp Q g q => wT_of (hT pe_w pe_w) (wE_mono (ha.run σ ρ F H fp _ g q) fun v H1 ⟨x, ρ1, F1, fp1, x1, g1, e1, q1⟩ => ?_)⟩
  refine wE_mono (hb.run σ ρ1 F1 H1 fp1 _ g1 q1) fun w H2 ⟨y, ρ2, F2, fp2, y2, g2, e2, q2⟩ => ?_
  dsimp only at q2
  cases hx : res ρ2 x with
  | none => rw [hx] at q2; exact q2.elim
  | some d =>
    cases hy : res ρ2 y with
    | none => rw [hx, hy] at q2; exact q2.elim
    | some d' =>
      rw [hx, hy] at q2
      exact hr F2 H2 v w d d' _ _ g2.same (res_q g2 (x1.mono e2.f) hx) (res_q g2 y2 hy) q2 fun z H3 fz => ((g2.fin fz).ext (e1.trans e2)).bool
theorem jw_and1 (ha : JT X B a t) : JW X B (.BoolOp .And [a] pos) t := ⟨fun σ ρ F H fp Q g q => wW_of (pw_and1 pt_w) (ha.run σ ρ F H fp Q g q)⟩
theorem jw_or1 (ha : JT X B a t) : JW X B (.BoolOp .Or [a] pos) t := ⟨fun σ ρ F H fp Q g q => wW_of (pw_or1 pt_w) (ha.run σ ρ F H fp Q g q)⟩
theorem jw_and (ha : JT X B a t) (hb : JW X B (.BoolOp .And (b :: rest) pos) u) : JW X B (.BoolOp .And (a :: b :: rest) pos) (tAnd t u) := by
  refine ⟨fun σ ρ F H fp Q g q => wW_of (pw_and pt_w pw_w) (wT_mono (ha.run σ ρ F H fp _ g q) fun c H1 ⟨ρ1, F1, fp1, g1, e1, q1⟩ => ?_)⟩
  cases c with
  | true => rw [if_pos rfl]; exact wW_mono (hb.run σ ρ1 F1 H1 fp1 _ g1 q1) fun _ _ z => z.ext e1
  | false => rw [if_neg Bool.false_ne_true]; exact ⟨ρ1, F1, fp1, g1, e1, q1⟩
theorem jw_or (ha : JT X B a t) (hb : JW X B (.BoolOp .Or (b :: rest) pos) u) : JW X B (.BoolOp .Or (a :: b :: rest) pos) (tOr t u) := by
  refine ⟨fun σ ρ F H fp Q g q => wW_of (pw_or pt_w pw_w) (wT_mono (ha.run σ ρ F H fp _ g q) fun c H1 ⟨ρ1, F1, fp1, g1, e1, q1⟩ => ?_)⟩
  cases c with
  | false => rw [if_neg Bool.false_ne_true]; exact wW_mono (hb.run σ ρ1 F1 H1 fp1 _ g1 q1) fun _ _ z => z.ext e1
  | true => rw [if_pos rfl]; exact ⟨ρ1, F1, fp1, g1, e1, q1⟩
theorem jt_not (ha : JT X B a t) : JT X B (.UnaryOp .Not a pos) (tNot t) := ⟨fun σ ρ F H fp Q g q => wT_of (pt_not pt_w) (ha.run σ ρ F H fp _ g q)⟩
/-! .. as values -/
theorem je_one {op} {t : TPe} (h : JE X B a t) : JE X B (.BoolOp op [a] pos) t := ⟨fun σ ρ F H fp Q g q => wE_of (pe_one pe_w) (h.run σ ρ F H fp Q g q)⟩
theorem je_and (ha : JE X B a ta) (hb : JE X B (.BoolOp .And (b :: rest) pos) tb) : JE X B (.BoolOp .And (a :: b :: rest) pos) (eAnd ta tb) := by
  refine ⟨fun σ ρ F H fp Q g q => wE_of (pe_and pe_w pe_w) (wE_mono (ha.run σ ρ F H fp _ g q) fun v H1 ⟨d, ρ1, F1, fp1, x1, g1, e1, q1⟩ => ?_)⟩
  dsimp only at q1
  split at q1
  · cases x1
    exact ⟨true, rfl, by rw [if_pos rfl]; exact wE_mono (hb.run σ ρ1 F1 H1 fp1 _ g1 q1) fun _ _ z => z.ext e1⟩
  · cases x1
    exact ⟨false, rfl, by rw [if_neg Bool.false_ne_true]; exact ⟨_, ρ1, F1, fp1, .bl false, g1, e1, q1⟩⟩
  · exact q1.elim
theorem je_or (ha : JE X B a ta) (hb : JE X B (.BoolOp .Or (b :: rest) pos) tb) : JE X B (.BoolOp .Or (a :: b :: rest) pos) (eOr ta tb) := by
  refine ⟨fun σ ρ F H fp Q g q => wE_of (pe_or pe_w pe_w) (wE_mono (ha.run σ ρ F H fp _ g q) fun v H1 ⟨d, ρ1, F1, fp1, x1, g1, e1, q1⟩ => ?_)⟩
  dsimp only at q1
  split at q1
  · cases x1
    exact ⟨true, rfl, by rw [if_pos rfl]; exact ⟨_, ρ1, F1, fp1, .bl true, g1, e1, q1⟩⟩
  · cases x1
    exact ⟨false, rfl, by rw [if_neg Bool.false_ne_true]; exact wE_mono (hb.run σ ρ1 F1 H1 fp1 _ g1 q1) fun _ _ z => z.ext e1⟩
  · exact q1.elim
theorem je_not (ha : JE X B a ta) : JE X B (.UnaryOp .Not a pos) (eNot ta) := by
  refine ⟨fun σ ρ F H fp Q g q => wE_of (pe_not pe_w) (wE_mono (ha.run σ ρ F H fp _ g q) fun v H1 ⟨d, ρ1, F1, fp1, x1, g1, e1, q1⟩ => ?_)⟩
  dsimp only at q1
  split at q1
  · cases x1
    exact ⟨_, rfl, _, ρ1, F1, fp1, .bl _, g1, e1, q1⟩
  · exact q1.elim
theorem jo_if {ta tb : TPo} (hc : JT X B c t) (ha : JO X B a ta) (hb : JO X B b tb) : JO X B (.IfExp c a b pos) (oIf t ta tb) := by
  refine ⟨fun σ ρ F H fp Q g q => wE_of (pe_ifExp pt_w pe_w pe_w) (wT_mono (hc.run σ ρ F H fp _ g q) fun c H1 ⟨ρ1, F1, fp1, g1, e1, q1⟩ => ?_)⟩
  cases c with
  | true => rw [if_pos rfl]; exact wE_mono (ha.run σ ρ1 F1 H1 fp1 _ g1 q1) fun _ _ z => z.ext e1
  | false => rw [if_neg Bool.false_ne_true]; exact wE_mono (hb.run σ ρ1 F1 H1 fp1 _ g1 q1) fun _ _ z => z.ext e1
theorem je_if (hc : JT X B c t) (ha : JE X B a ta) (hb : JE X B b tb) : JE X B (.IfExp c a b pos) (eIf t ta tb) := by
  refine ⟨fun σ ρ F H fp Q g q => wE_of (pe_ifExp pt_w pe_w pe_w) (wT_mono (hc.run σ ρ F H fp _ g q) fun c H1 ⟨ρ1, F1, fp1, g1, e1, q1⟩ => ?_)⟩
  cases c with
  | true => rw [if_pos rfl]; exact wE_mono (ha.run σ ρ1 F1 H1 fp1 _ g1 q1) fun _ _ z => z.ext e1
  | false => rw [if_neg Bool.false_ne_true]; exact wE_mono (hb.run σ ρ1 F1 H1 fp1 _ g1 q1) fun _ _ z => z.ext e1

/-! ### a op b op' c -/
def oCh (p p' : P2) (ta tb tc : TPx) : TPo := fun ρ Q => ta ρ fun x ρ1 => tb ρ1 fun y ρ2 => match res ρ2 x, res ρ2 y with
  | some d, some e => p d e fun o => match o with
    | .sh (.bool true) => tc ρ2 fun z ρ3 => match res ρ3 y, res ρ3 z with
      | some e', some f => p' e' f fun o => Q o ρ3
      | _, _ => False
    | .sh (.bool false) => Q (.sh (.bool false)) ρ2
    | _ => False
  | _, _ => False
theorem ch_core {op op' : CmpOp} {r r' : R2} {p p' : P2} {ta tb tc : TPx} (hr : Op2S (kb X B) r p) (hr' : Op2S (kb X B) r' p') (ha : JX X B a ta) (hb : JX X B b tb) (hc : JX X B c tc) {σ : L2.St} {ρ : Ev} {F H : Hp} {fp : Nat → List Addr} {Q : O → Ev → Prop} {R : VK}
    (g : Good (kb X B) σ ρ F H fp) (q : oCh p p' ta tb tc ρ Q) (k : ∀ v H', QO (kb X B) σ F H (inL fp) Q v H' → R v H') : tChain r r' (wE X a) (wE X b) (wE X c) σ H R := by
  refine wE_mono (ha.run σ ρ F H fp _ g q) fun v H1 ⟨x, ρ1, F1, fp1, x1, g1, e1, q1⟩ => wE_mono (hb.run σ ρ1 F1 H1 fp1 _ g1 q1) fun w H2 ⟨y, ρ2, F2, fp2, y2, g2, e2, q2⟩ => ?_
  dsimp only at q2
  cases hx : res ρ2 x with
  | none => rw [hx] at q2; exact q2.elim
  | some d =>
    cases hy : res ρ2 y with
    | none => rw [hx, hy] at q2; exact q2.elim
    | some d' =>
      rw [hx, hy] at q2
      refine hr F2 H2 v w d d' _ _ g2.same (res_q g2 (x1.mono e2.f) hx) (res_q g2 y2 hy) q2 fun z H3 fz => ?_
      obtain ⟨o, ρ3, F3, fp3, lo, h1, h2, h3, g3, e3, q3⟩ := g2.fin (Q := fun o ρ2 => match o with
        | .sh (.bool true) => tc ρ2 fun z ρ3 => match res ρ3 y, res ρ3 z with
          | some e', some f => p' e' f fun o => Q o ρ3
          | _, _ => False
        | .sh (.bool false) => Q (.sh (.bool false)) ρ2
        | _ => False) fz
      have e3' := e3.less (L'' := inL fp3) fun c z => .inr z
      split at q3
      · cases h1 with
        | sh h1 =>
          cases h1
          refine ⟨true, rfl, ?_⟩
          rw [if_pos rfl]
          refine wE_mono (hc.run σ ρ3 F3 H3 fp3 _ g3 q3) fun u H4 ⟨zz, ρ4, F4, fp4, z4, g4, e4, q4⟩ => ?_
          dsimp only at q4
          cases hy : res ρ4 y with
          | none => rw [hy] at q4; exact q4.elim
          | some e' =>
            cases hz : res ρ4 zz with
            | none => rw [hy, hz] at q4; exact q4.elim
            | some f =>
              rw [hy, hz] at q4
              exact hr' F4 H4 w u e' f _ _ g4.same (res_q g4 (y2.mono (e3.f.trans e4.f)) hy) (res_q g4 z4 hz) q4 fun z' H5 fz' => k _ _ ((g4.fin fz').ext (((e1.trans e2).trans e3').trans e4))
      · cases h1 with
        | sh h1 =>
          cases h1
          refine ⟨false, rfl, ?_⟩
          rw [if_neg Bool.false_ne_true]
          exact k _ _ ⟨.sh (.bool false), ρ3, F3, fp3, [], .sh (.bl false), List.nodup_nil, fun a m => by simp at m, g3, ((e1.trans e2).trans e3').less fun c z => z.elim (fun m => by simp at m) id, q3⟩
      · exact q3.elim
theorem jo_ch {op op' : CmpOp} {r r' : R2} {p p' : P2} {ta tb tc : TPx} (ho : OpR X (compareOp op) r) (ho' : OpR X (compareOp op') r') (hr : Op2S (kb X B) r p) (hr' : Op2S (kb X B) r' p') (ha : JX X B a ta) (hb : JX X B b tb) (hc : JX X B c tc)
    (hm : lastMarks [op, op'] [b, c] = false := by with_unfolding_all rfl) : JO X B (.Compare a [op, op'] [b, c] pos) (oCh p p' ta tb tc) :=
  ⟨fun σ ρ F H fp Q g q => wE_of (pe_chain ho ho' pe_w pe_w pe_w hm) (ch_core (op := op) (op' := op') hr hr' ha hb hc g q fun _ _ z => z)⟩
theorem jt_ch {op op' : CmpOp} {r r' : R2} {p p' : P2} {ta tb tc : TPx} (ho : OpR X (compareOp op) r) (ho' : OpR X (compareOp op') r') (hr : Op2S (kb X B) r p) (hr' : Op2S (kb X B) r' p') (ha : JX X B a ta) (hb : JX X B b tb) (hc : JX X B c tc)
    (hm : lastMarks [op, op'] [b, c] = false := by with_unfolding_all rfl) : JT X B (.Compare a [op, op'] [b, c] pos) (bO (oCh p p' ta tb tc)) :=
  ⟨fun σ ρ F H fp Q g q => wT_of (pt_chain ho ho' pe_w pe_w pe_w hm) (ch_core (op := op) (op' := op') hr hr' ha hb hc g q fun _ _ z => z.bool)⟩
end

/-! ### calls of built-ins, methods: by lists of operands -/
theorem RqAll.one {K : Kb} {F H : Hp} {vs : List V} {d : D} (r : RqAll K F H vs [d]) : ∃ v, vs = [v] ∧ Rq K F H v d := by
  cases r with
  | cons h t => cases t; exact ⟨_, rfl, h⟩
def pLen : PN := fun ds Q => match ds with
  | [.list xs] => Q (.sh (.int xs.length))
  | [.tuple xs] => Q (.sh (.int xs.length))
  | [.str z] => z.length ≤ sizeLine ∧ Q (.sh (.int z.length))
  | _ => False
def rLen (K : PySem.W.Frag) : List V → Hp → VK → Prop := fun xs H Q => (∃ p ys, xs = [.ref p] ∧ (SqL K H p ys ∨ SqT K H p ys) ∧ Q (.int ys.length) H) ∨ ∃ z, xs = [.str z] ∧ z.length ≤ sizeLine ∧ Q (.int z.length) H
theorem call_len2 {X : Cx} : CallR X (.builtin "len") (rLen X.K) := call_len_seq.or call_len_str
theorem s_len {K : Kb} : OpNS K (rLen K.K) pLen := by
  intro F H vs ds Q R s rv q k
  unfold pLen at q
  split at q
  · obtain ⟨v, rfl, r⟩ := rv.one
    obtain ⟨a, vs, rfl, h1, h2⟩ := r.list s
    exact .inl ⟨a, vs, rfl, .inl h1, by rw [h2.len]; exact k _ _ (fin_sh s (.int _) q)⟩
  · obtain ⟨v, rfl, r⟩ := rv.one
    obtain ⟨a, vs, rfl, h1, h2⟩ := r.tup s
    exact .inl ⟨a, vs, rfl, .inr h1, by rw [h2.len]; exact k _ _ (fin_sh s (.int _) q)⟩
  · obtain ⟨v, rfl, r⟩ := rv.one
    cases r.str
    exact .inr ⟨_, rfl, q.1, k _ _ (fin_sh s (.int _) q.2)⟩
  · exact q.elim
def pList : PN := fun ds Q => match ds with
  | [.list xs] => Q (.fl xs)
  | [.tuple xs] => Q (.fl xs)
  | _ => False
theorem s_list {K : Kb} : OpNS K (fun xs H Q => ∃ p ys, xs = [.ref p] ∧ (SqL K.K H p ys ∨ SqT K.K H p ys) ∧ ∀ l, H l = none → Q (.ref l) (upd H l (.lst ys))) pList := by
  intro F H vs ds Q R s rv q k
  unfold pList at q
  split at q
  · obtain ⟨v, rfl, r⟩ := rv.one
    obtain ⟨a, vs, rfl, h1, h2⟩ := r.list s
    exact ⟨a, vs, rfl, .inl h1, fun p n => k _ _ (fin_list s n h2 q)⟩
  · obtain ⟨v, rfl, r⟩ := rv.one
    obtain ⟨a, vs, rfl, h1, h2⟩ := r.tup s
    exact ⟨a, vs, rfl, .inr h1, fun p n => k _ _ (fin_list s n h2 q)⟩
  · exact q.elim
/-- all(xs), any(xs) of bools -/
def boolsOf : List D → Option (List Bool)
  | [] => some []
  | .bool b :: ds => match boolsOf ds with
    | some bs => some (b :: bs)
    | none => none
  | _ :: _ => none
theorem bools_v {K : Kb} {F : Hp} : ∀ {vs : List V} {ds : List D} {bs : List Bool}, DqAll K F vs ds → boolsOf ds = some bs → vs = bs.map V.bl
  | [], [], _, .nil, e => by cases e; rfl
  | v :: vs, d :: ds, bs, .cons h t, e => by
    unfold boolsOf at e
    split at e
    · rename_i e1; cases e1
    · rename_i b ds' e1
      cases e1
      split at e
      · rename_i bs' e2
        cases e
        cases h
        rw [bools_v t e2]; rfl
      · cases e
    · cases e
def pAll : PN := fun ds Q => match ds with
  | [.list xs] => match boolsOf xs with
    | some bs => Q (.sh (.bool (bs.all id)))
    | none => False
  | _ => False
def pAny : PN := fun ds Q => match ds with
  | [.list xs] => match boolsOf xs with
    | some bs => Q (.sh (.bool (bs.any id)))
    | none => False
  | _ => False
theorem s_all {K : Kb} : OpNS K (rAll K.K) pAll := by
  intro F H vs ds Q R s rv q k
  unfold pAll at q
  split at q
  · obtain ⟨v, rfl, r⟩ := rv.one
    obtain ⟨a, vs, rfl, h1, h2⟩ := r.list s
    split at q
    · rename_i bs e
      cases bools_v h2 e
      exact ⟨a, bs, rfl, h1, k _ _ (fin_sh s (.bl _) q)⟩
    · exact q.elim
  · exact q.elim
theorem s_any {K : Kb} : OpNS K (rAny K.K) pAny := by
  intro F H vs ds Q R s rv q k
  unfold pAny at q
  split at q
  · obtain ⟨v, rfl, r⟩ := rv.one
    obtain ⟨a, vs, rfl, h1, h2⟩ := r.list s
    split at q
    · rename_i bs e
      cases bools_v h2 e
      exact ⟨a, bs, rfl, h1, k _ _ (fin_sh s (.bl _) q)⟩
    · exact q.elim
  · exact q.elim
/-- isinstance(x, T) -/
def tyN : D → String
  | .none => "NoneType"
  | .bool _ => "bool"
  | .int _ => "int"
  | .str _ => "str"
  | .list _ => "list"
  | .tuple _ => "tuple"
  | .nl _ => "list"
theorem Rq.tyX {K : Kb} {F H : Hp} {v : V} {d : D} (r : Rq K F H v d) (s : Same F H) : TyX K.K H v (.type (tyN d)) := by
  have h := r.dpH s
  cases h with
  | non => exact .base .non
  | bl b => exact .base (.bl b)
  | int i => exact .base (.int i)
  | str x => exact .base (.str x)
  | lst h1 _ =>
    rcases h1 with (h1 | ⟨o, h1⟩) | ⟨o, its, n, h1, h2, _⟩
    · exact .base (.lst h1)
    · exact .base (.frz h1)
    · exact .kList h1 h2
  | nl _ h1 _ => exact .base (.lst h1)
  | tup h1 _ =>
    rcases h1 with (h1 | ⟨o, h1⟩) | ⟨o, its, n, h1, h2, _⟩
    · exact .base (.tup h1)
    · exact .fTuple h1
    · exact .kTuple h1 h2
def isTN (t T : String) : Bool := t == T || (t == "bool" && T == "int")
def isT (d : D) (T : String) : Bool := isTN (tyN d) T
def oIsi (T : String) (ta : TPx) : TPo := fun ρ Q => ta ρ fun x ρ1 => match res ρ1 x with
  | some d => Q (.sh (.bool (isT d T))) ρ1
  | none => False
section
variable {X : Cx} {B : Hp} {e f : Expr} {ta tb : TPx} {x : Str} {p p2 pos : Pos}
theorem jo_isi {T : String} (hT : ∀ d : D, kitB (tyN d) T = some (isT d T)) (hg : Gl X "isinstance") (hm : X.mg "isinstance" = none) (hg2 : Gl X x) (hm2 : X.mg x = none) (hv2 : bootBuiltins x = some (.type T)) (ha : JX X B e ta)
    (hn : x ≠ "__name__" := by decide) (hd : (x == ("__debug__" : Str)) = false := by decide) (hv : bootBuiltins "isinstance" = some (.builtin "isinstance") := by decide +kernel)
    (h1 : starEach [e, .Name x p2] X.env = (false, eval e X.env) :: starEach [.Name x p2] X.env := by rfl) (h2 : (backTo pos (starEach [.Name x p2] X.env)).any (·.1) = false := by rfl)
    (h3 : starEach [.Name x p2] X.env = (false, eval (.Name x p2) X.env) :: starEach [] X.env := by rfl) :
    JO X B (.Call (.Name "isinstance" p) [e, .Name x p2] [] pos) (oIsi T ta) := by
  refine ⟨fun σ ρ F H fp Q g q => wE_of (pe_callB call_isi hg hm hv (pa_cons pe_w (pa_cons (pe_bltn (v := .ty T) hg2 hm2 hv2 rfl hn hd) pa_nil h3) h1) (by decide) (by decide) h1 h2) (wE_mono (ha.run σ ρ F H fp _ g q) fun v H1 ⟨y, ρ1, F1, fp1, x1, g1, e1, q1⟩ => ?_)⟩
  dsimp only at q1
  cases hx : res ρ1 y with
  | none => rw [hx] at q1; exact q1.elim
  | some d =>
    rw [hx] at q1
    have rv := res_q g1 x1 hx
    exact ⟨v, .ty T, .type (tyN d), .type T, isT d T, rfl, .ty T, rv.tyX g1.same, kit_ty (hT d), (g1.fin (fin_sh g1.same (.bl _) q1)).ext e1⟩
end
theorem kit_str (d : D) : kitB (tyN d) "str" = some (isT d "str") := by
  have h : ∀ t ∈ ["NoneType", "bool", "int", "str", "list", "tuple", "dict"], kitB t "str" = some (isTN t "str") := by decide +kernel
  exact h (tyN d) (by cases d <;> simp [tyN])
theorem kit_list (d : D) : kitB (tyN d) "list" = some (isT d "list") := by
  have h : ∀ t ∈ ["NoneType", "bool", "int", "str", "list", "tuple", "dict"], kitB t "list" = some (isTN t "list") := by decide +kernel
  exact h (tyN d) (by cases d <;> simp [tyN])
theorem kit_tuple (d : D) : kitB (tyN d) "tuple" = some (isT d "tuple") := by
  have h : ∀ t ∈ ["NoneType", "bool", "int", "str", "list", "tuple", "dict"], kitB t "tuple" = some (isTN t "tuple") := by decide +kernel
  exact h (tyN d) (by cases d <;> simp [tyN])
theorem kit_int (d : D) : kitB (tyN d) "int" = some (isT d "int") := by
  have h : ∀ t ∈ ["NoneType", "bool", "int", "str", "list", "tuple", "dict"], kitB t "int" = some (isTN t "int") := by decide +kernel
  exact h (tyN d) (by cases d <;> simp [tyN])
theorem kit_bool (d : D) : kitB (tyN d) "bool" = some (isT d "bool") := by
  have h : ∀ t ∈ ["NoneType", "bool", "int", "str", "list", "tuple", "dict"], kitB t "bool" = some (isTN t "bool") := by decide +kernel
  exact h (tyN d) (by cases d <;> simp [tyN])

/-! ### methods of texts -/
abbrev PM := Str → D → (O → Prop) → Prop
def MtS (K : Kb) (r : V → List V → Hp → VK → Prop) (p : PM) : Prop := ∀ (F H : Hp) (z : Str) (w : V) (e : D) (Q : O → Prop) (R : VK), Same F H → Rq K F H w e → p z e Q → (∀ z H', Fin K F H Q z H' → R z H') → r (.str z) [w] H R
def oM (p : PM) (ta : TPe) (tb : TPx) : TPo := fun ρ Q => ta ρ fun d ρ1 => match d with
  | .str z => tb ρ1 fun y ρ2 => match res ρ2 y with
    | some e => p z e fun o => Q o ρ2
    | none => False
  | _ => False
section
variable {X : Cx} {B : Hp} {a b e : Expr} {ta : TPe} {tb : TPx}
/-- o.m(e), o a text -/
theorem jo_m {r : V → List V → Hp → VK → Prop} {p : PM} (hE : ∀ {ta tb : TE}, PE X a ta → PE X b tb → PE X e (tM1 r ta tb)) (hr : MtS (kb X B) r p) (ha : JE X B a ta) (hb : JX X B b tb) : JO X B e (oM p ta tb) := by
  refine ⟨fun σ ρ F H fp Q g q => wE_of (hE pe_w pe_w) (wE_mono (ha.run σ ρ F H fp _ g q) fun v H1 ⟨d, ρ1, F1, fp1, x1, g1, e1, q1⟩ => ?_)⟩
  dsimp only at q1
  split at q1
  · rename_i z
    cases x1
    refine ⟨⟨z, rfl⟩, wE_mono (hb.run σ ρ1 F1 H1 fp1 _ g1 q1) fun w H2 ⟨y, ρ2, F2, fp2, y2, g2, e2, q2⟩ => ?_⟩
    dsimp only at q2
    cases hy : res ρ2 y with
    | none => rw [hy] at q2; exact q2.elim
    | some d' =>
      rw [hy] at q2
      exact hr F2 H2 z w d' _ _ g2.same (res_q g2 y2 hy) q2 fun z H3 fz => (g2.fin fz).ext (e1.trans e2)
  · exact q1.elim
end
/-- split by a text that is not empty -/
def pSplit : PM := fun z e Q => match e with
  | .str b => (b.length == 0) = false ∧ z.length + 2 ≤ sizeLine ∧ Q (.fl ((Txt.split z b).map .str))
  | _ => False
theorem dp_strs {K : Kb} {F : Hp} : ∀ xs : List Str, DqAll K F (xs.map V.str) (xs.map D.str)
  | [] => .nil
  | x :: xs => .cons (.str x) (dp_strs xs)
theorem s_split {K : Kb} : MtS K (fun x xs H Q => ∃ a b, x = .str a ∧ xs = [.str b] ∧ (b.length == 0) = false ∧ a.length + 2 ≤ sizeLine ∧ rNewStrs (Txt.split a b) H Q) pSplit := by
  intro F H z w e Q R s rv q k
  unfold pSplit at q
  split at q
  · cases rv.str
    exact ⟨z, _, rfl, rfl, q.1, q.2.1, fun p n => k _ _ (fin_list s n (dp_strs _) q.2.2)⟩
  · exact q.elim
def strsOf : List D → Option (List Str)
  | [] => some []
  | .str b :: ds => match strsOf ds with
    | some bs => some (b :: bs)
    | none => none
  | _ :: _ => none
theorem strsOf_map : ∀ xs : List Str, strsOf (xs.map D.str) = some xs
  | [] => rfl
  | x :: xs => by
    show (match strsOf (xs.map D.str) with
      | some bs => some (x :: bs)
      | none => none) = _
    rw [strsOf_map xs]
theorem boolsOf_map : ∀ xs : List Bool, boolsOf (xs.map D.bool) = some xs
  | [] => rfl
  | x :: xs => by
    show (match boolsOf (xs.map D.bool) with
      | some bs => some (x :: bs)
      | none => none) = _
    rw [boolsOf_map xs]
theorem strs_v {K : Kb} {F : Hp} : ∀ {vs : List V} {ds : List D} {bs : List Str}, DqAll K F vs ds → strsOf ds = some bs → vs = bs.map V.str
  | [], [], _, .nil, e => by cases e; rfl
  | v :: vs, d :: ds, bs, .cons h t, e => by
    unfold strsOf at e
    split at e
    · rename_i e1; cases e1
    · rename_i b ds' e1
      cases e1
      split at e
      · rename_i bs' e2
        cases e
        cases h
        rw [strs_v t e2]; rfl
      · cases e
    · cases e
def pJoin : PM := fun z e Q => match e with
  | .list ds => match strsOf ds with
    | some ys => (ys.map (·.length)).sum + ys.length * z.length ≤ 16777216 ∧ Q (.sh (.str (Txt.join z ys)))
    | none => False
  | _ => False
theorem s_join {K : Kb} : MtS K (fun x xs H Q => ∃ a p, ∃ ys : List Str, x = .str a ∧ xs = [.ref p] ∧ (SqL K.K H p (ys.map V.str) ∨ SqT K.K H p (ys.map V.str)) ∧
    (ys.map (·.length)).sum + ys.length * a.length ≤ 16777216 ∧ Q (.str (Txt.join a ys)) H) pJoin := by
  intro F H z w e Q R s rv q k
  unfold pJoin at q
  split at q
  · obtain ⟨a, vs, rfl, h1, h2⟩ := rv.list s
    split at q
    · rename_i ys e
      cases strs_v h2 e
      exact ⟨z, a, ys, rfl, rfl, .inl h1, q.1, k _ _ (fin_sh s (.str _) q.2)⟩
    · exact q.elim
  · exact q.elim

/-! ### sorted, any data -/
section
variable {X : Cx} {B : Hp}
def VRel (K : Kb) (F : Hp) (u : Value) (d : D) : Prop := ∃ v, RelV v u ∧ Dq K F v d
theorem vrel_all {K : Kb} {F : Hp} : ∀ {vs : List V} {us : List Value} {ds : List D}, Vals vs us → DqAll K F vs ds → PySem.W.EachIs (VRel K F) us ds
  | _, _, _, .nil, .nil => .nil
  | _, _, _, .cons r t, .cons h u => .cons ⟨_, r, h⟩ (vrel_all t u)
theorem vrel_back {K : Kb} {F : Hp} : ∀ {us : List Value} {ds : List D}, PySem.W.EachIs (VRel K F) us ds → ∃ vs, Vals vs us ∧ DqAll K F vs ds
  | _, _, .nil => ⟨[], .nil, .nil⟩
  | _, _, .cons ⟨v, r, h⟩ t => by
    obtain ⟨vs, r2, h2⟩ := vrel_back t
    exact ⟨v :: vs, .cons r r2, .cons h h2⟩
theorem each_reads {pins : List (Addr × Obj)} {σ : L2.St} {H F : Hp} {s : Shared} (I : Inv X pins σ H s) (sa : Same F H) : ∀ {us : List Value} {ds : List D}, PySem.W.EachIs (VRel (kb X B) F) us ds → PySem.W.EachIs (fun v b => ∃ as, Reads s.heap v (er b) as) us ds
  | _, _, .nil => .nil
  | _, _, .cons ⟨v, r, h⟩ t => .cons (Dp.reads I _ _ _ (h.mono sa).dp r) (each_reads I sa t)
/-- sorted(xs): F as frozen; the items' own data -/
def rSortD (K : Kb) : List V → Hp → VK → Prop := fun xs H Q => ∃ F a vs ds, xs = [.ref a] ∧ Same F H ∧ SqL K.K H a vs ∧ DqAll K F vs ds ∧ PySem.W.AllAlike (ds.map er) ∧ PySem.W.Sortable (ds.map er) ∧ (∀ d ∈ ds, (er d).depth ≤ 64) ∧
  ∀ ws p, DqAll K F ws (ds.mergeSort (PySem.W.dataLe false er)) → H p = none → Q (.ref p) (upd H p (.lst ws))
theorem call_sortD (B : Hp) (px : PX X) : CallR X (.builtin "sorted") (rSortD (kb X B)) := by
  intro pins s σ H xs us Q I r h
  obtain ⟨F, a, vs, ds, rfl, sa, hs, hd, hal, hso, hz, q⟩ := h
  obtain ⟨its, rv, hl, hlen⟩ := I.list hs
  rw [Vals.ref1 r]
  have e := vrel_all rv hd
  have hu := px.hu
  refine PySem.W.sorted_data (enc := er) (R := VRel (kb X B) F) hl.isList e (each_reads I sa e) hal hso (by rw [← hd.len]; exact hlen) (fun b hb => ?_) fun out ho eo => ?_
  · have := hz b hb
    show X.A.units + 2 + (er b).depth < cLine
    omega
  · obtain ⟨ep, he'⟩ := PyProof.Rows.sortedAll_at s.heap its out.toArray
    obtain ⟨ws, rw', hw⟩ := vrel_back eo
    have hl2 : ws.length ≤ sizeLine := by
      rw [rw'.length, ho, ← hd.len]
      exact hlen
    exact ⟨.ref _, upd H (s.heap.objs.size + 1) (.lst ws), I.laid (t' := s.toks) (fun _ _ => PyProof.Rows.sortedAll_old) (Nat.le_succ _) ⟨hl2, out, ep, rw', he'⟩, rfl, q ws _ hw (I.hok.fresh (Nat.le_succ _))⟩
def pSort : PN := fun ds Q => match ds with
  | [.list xs] => PySem.W.AllAlike (xs.map er) ∧ PySem.W.Sortable (xs.map er) ∧ PyData.depthAll (xs.map er) ≤ 64 ∧ Q (.fl (xs.mergeSort (PySem.W.dataLe false er)))
  | _ => False
theorem depth_mem : ∀ {ds : List PyData} {d : PyData}, d ∈ ds → d.depth ≤ PyData.depthAll ds
  | d' :: ds, d, h => by
    simp only [PyData.depthAll]
    rcases List.mem_cons.mp h with rfl | h
    · exact Nat.le_max_left _ _
    · exact Nat.le_trans (depth_mem h) (Nat.le_max_right _ _)
theorem s_sort {K : Kb} : OpNS K (rSortD K) pSort := by
  intro F H vs ds Q R s rv q k
  unfold pSort at q
  split at q
  · obtain ⟨v, rfl, r⟩ := rv.one
    obtain ⟨a, vs, rfl, h1, h2⟩ := r.list s
    exact ⟨F, a, vs, _, rfl, s, h1, h2, q.1, q.2.1, fun d hd => Nat.le_trans (depth_mem (List.mem_map_of_mem hd)) q.2.2.1, fun ws p hw n => k _ _ (fin_list s n hw q.2.2.2)⟩
  · exact q.elim
end

/-! ### t.index(x) of a tuple of texts of the written part -/
def pTIx : P2 := fun d e Q => match d, e with
  | .tuple ds, .str z => match strsOf ds with
    | some ys => match ys.findIdx? (· == z) with
      | some j => Q (.sh (.int (j : Nat)))
      | none => False
    | none => False
  | _, _ => False
section
variable {X : Cx} {B : Hp} {o e : Expr} {ta : TPe} {tb : TPx} {apos cpos : Pos}
def oTIx (ta : TPe) (tb : TPx) : TPo := fun ρ Q => ta ρ fun d ρ1 => tb ρ1 fun y ρ2 => match res ρ2 y with
  | some e => pTIx d e fun o => Q o ρ2
  | none => False
/-- o is a name of the module: a tuple of texts -/
theorem jo_tix {a : Addr} {ys : List Str} {oo : Obj} (hp : PE X o (tC (.ref a))) (hK : X.K.lookup a = some oo) (hc : oo.cls = .type "tuple") (hd : oo.dict = none) (hs : ∀ F : Hp, SqT X.K F a (ys.map V.str)) (hb : JX X B e tb)
    (hbase : attributeBase o "index" X.env (eval o X.env) = eval o X.env := by rfl)
    (hfew : ((backTo cpos (starEach [e] X.env)).all (fun x => !x.1) && (backToKw cpos (keywordEach [] X.env)).all (fun x => x.1.isSome)
      && decide (([e] : List Expr).length + ([] : List Keyword).length + (if ([] : List Keyword).isEmpty then 0 else 1) < 30)) = true := by rfl)
    (hline : (apos.endLine == cpos.line) = true := by rfl) (hst : starEach [e] X.env = (false, eval e X.env) :: starEach [] X.env := by rfl) (hplain : (backTo cpos (starEach [] X.env)).any (·.1) = false := by rfl) :
    JO X B (.Call (.Attribute o "index" apos) [e] [] cpos) (oTIx (eC (.tuple (ys.map .str))) tb) := by
  refine ⟨fun σ ρ F H fp Q g q => wE_of (pe_bm PySem.F.plainAttrs_tuple PySem.F.slot_tuple_index PySem.F.type_tuple_index mt_tup_index hp (pa_cons pe_w pa_nil hst) hbase hfew hline hst hplain) ?_⟩
  refine ⟨.inr (.inl ⟨rfl, oo, hK, hc, hd⟩), wE_mono (hb.run σ ρ F H fp _ g q) fun w H2 ⟨y, ρ2, F2, fp2, y2, g2, e2, q2⟩ => ?_⟩
  dsimp only at q2
  cases hy : res ρ2 y with
  | none => rw [hy] at q2; exact q2.elim
  | some d' =>
    rw [hy] at q2
    have rv := res_q g2 y2 hy
    cases d' with
    | str z =>
      have q2 : (match strsOf (ys.map D.str) with
        | some ys => match ys.findIdx? (· == z) with
          | some j => Q (.sh (.int (j : Nat))) ρ2
          | none => False
        | none => False) := q2
      rw [strsOf_map] at q2
      dsimp only at q2
      split at q2
      · rename_i j ej
        obtain ⟨hj, h1, h2⟩ := List.findIdx?_eq_some_iff_getElem.mp ej
        cases rv.str
        refine ⟨a, ys, z, j, rfl, rfl, hs H2, ?_, fun m hm => ?_, (g2.fin (fin_sh g2.same (.int _) q2)).ext e2⟩
        · rw [List.getElem?_eq_getElem hj]
          exact congrArg some (by simpa using h1)
        · intro em
          have hml : m < ys.length := by omega
          rw [List.getElem?_eq_getElem hml] at em
          have := h2 m hm
          simp only [Option.some.injEq] at em
          simp [em] at this
      · exact q2.elim
    | _ => exact False.elim q2
end
end Pl
/-! The pure layer, part 5: statements, loops. -/
namespace Pl
open PySem PySem.Spec L2

structure PEnds where
  nx : Ev → Prop
  rt : O → Ev → Prop
abbrev TPS := PEnds → Ev → Prop
def wS (X : Cx) (st : Stmt) : TS := fun D σ H => ∀ pins s, Inv X pins σ H s → wpAny (model X.prog X.w) X.A (exec st X.env) (SP X pins D) X.xe s
def wSs (X : Cx) (sts : List Stmt) : TS := fun D σ H => ∀ pins s, Inv X pins σ H s → wpAny (model X.prog X.w) X.A (execs sts X.env) (SP X pins D) X.xe s
section
variable {X : Cx} {B : Hp} {st : Stmt} {sts : List Stmt} {σ : L2.St} {H : Hp}
theorem ps_w : PS X st (wS X st) := ⟨fun pins s σ H D I h => h pins s I⟩
theorem pss_w : PSs X sts (wSs X sts) := ⟨fun pins s σ H D I h => h pins s I⟩
theorem wS_of {t : TS} {D : Ends} (h : PS X st t) (q : t D σ H) : wS X st D σ H := fun pins s I => h.run pins s σ H D I q
theorem wSs_of {t : TS} {D : Ends} (h : PSs X sts t) (q : t D σ H) : wSs X sts D σ H := fun pins s I => h.run pins s σ H D I q
/-- one end within another -/
structure EndsLe (D D' : Ends) : Prop where
  nx : ∀ σ H, D.nx σ H → D'.nx σ H
  rt : ∀ v H, D.rt v H → D'.rt v H
  bk : ∀ σ H, D.bk σ H → D'.bk σ H
  ct : ∀ σ H, D.ct σ H → D'.ct σ H
theorem SP.mono {D D' : Ends} (h : EndsLe D D') {pins : List (Addr × Obj)} {f : Flow} {s : Shared} (q : SP X pins D f s) : SP X pins D' f s := by
  cases f with
  | next => obtain ⟨σ', H', I, q⟩ := q; exact ⟨σ', H', I, h.nx _ _ q⟩
  | brk => obtain ⟨σ', H', I, q⟩ := q; exact ⟨σ', H', I, h.bk _ _ q⟩
  | cont => obtain ⟨σ', H', I, q⟩ := q; exact ⟨σ', H', I, h.ct _ _ q⟩
  | ret u => obtain ⟨v, σ', H', I, r, q⟩ := q; exact ⟨v, σ', H', I, r, h.rt _ _ q⟩
theorem wS_mono {D D' : Ends} (q : wS X st D σ H) (h : EndsLe D D') : wS X st D' σ H := fun pins s I => thn (q pins s I) fun _ _ z => SP.mono h z
theorem wSs_mono {D D' : Ends} (q : wSs X sts D σ H) (h : EndsLe D D') : wSs X sts D' σ H := fun pins s I => thn (q pins s I) fun _ _ z => SP.mono h z
end

def EO (K : Kb) (P : List Nat) (σ : L2.St) (F H : Hp) (L : Addr → Prop) (D : PEnds) : Ends where
  nx := fun σ' H' => ∃ ρ' F' fp', Good K σ' ρ' F' H' fp' ∧ Ext F H L F' H' (inL fp') ∧ (∀ i ∈ P, σ'[i]? = σ[i]?) ∧ D.nx ρ'
  rt := fun v H' => ∃ o σ' ρ' F' fp' lo, RO K F' H' v o lo ∧ lo.Nodup ∧ (∀ a ∈ lo, F' a = none ∧ ∀ i, a ∉ fp' i) ∧ Good K σ' ρ' F' H' fp' ∧ Ext F H L F' H' (fun a => a ∈ lo ∨ inL fp' a) ∧ (∀ i ∈ P, σ'[i]? = σ[i]?) ∧ D.rt o ρ'
theorem EO.ext {K : Kb} {P : List Nat} {σ σ1 : L2.St} {F H F1 H1 : Hp} {L L1 : Addr → Prop} {D : PEnds} (e : Ext F H L F1 H1 L1) (p : ∀ i ∈ P, σ1[i]? = σ[i]?) : EndsLe (EO K P σ1 F1 H1 L1 D) (EO K P σ F H L D) where
  nx := fun σ' H' ⟨ρ', F', fp', g, e', p', q⟩ => ⟨ρ', F', fp', g, e.trans e', fun i hi => (p' i hi).trans (p i hi), q⟩
  rt := fun v H' ⟨o, σ', ρ', F', fp', lo, a1, a2, a3, g, e', p', q⟩ => ⟨o, σ', ρ', F', fp', lo, a1, a2, a3, g, e.trans e', fun i hi => (p' i hi).trans (p i hi), q⟩
  bk := fun _ _ q => q
  ct := fun _ _ q => q
structure JSt (X : Cx) (B : Hp) (P : List Nat) (st : Stmt) (t : TPS) : Prop where
  run : ∀ (σ : L2.St) (ρ : Ev) (F H : Hp) (fp : Nat → List Addr) (D : PEnds), Good (kb X B) σ ρ F H fp → t D ρ → wS X st (EO (kb X B) P σ F H (inL fp) D) σ H
structure JSs (X : Cx) (B : Hp) (P : List Nat) (sts : List Stmt) (t : TPS) : Prop where
  run : ∀ (σ : L2.St) (ρ : Ev) (F H : Hp) (fp : Nat → List Addr) (D : PEnds), Good (kb X B) σ ρ F H fp → t D ρ → wSs X sts (EO (kb X B) P σ F H (inL fp) D) σ H

/-! ### blocks -/
def zNx : TPS := fun D ρ => D.nx ρ
def zSeq (t u : TPS) : TPS := fun D ρ => t { D with nx := u D } ρ
def zRet (t : TPo) : TPS := fun D ρ => t ρ D.rt
def zRetN : TPS := fun D ρ => D.rt (.sh .none) ρ
def zSet (i : Nat) (t : TPo) : TPS := fun D ρ => t ρ fun o ρ' => D.nx (ρ'.set i (some o))
def zDrop (t : TPo) : TPS := fun D ρ => t ρ fun _ ρ' => D.nx ρ'
def zIf (c : TPt) (t u : TPS) : TPS := fun D ρ => c ρ fun b ρ' => match b with
  | true => t D ρ'
  | false => u D ρ'
def zNever : TPS := fun _ _ => False
section
variable {X : Cx} {B : Hp} {P : List Nat} {st : Stmt} {rest : List Stmt} {t u : TPS} {e : Expr} {pos : Pos}
theorem js_nil' : JSs X B P [] zNx := ⟨fun σ ρ F H fp D g q => wSs_of pss_nil ⟨ρ, F, fp, g, .refl, fun _ _ => rfl, q⟩⟩
theorem js_cons' (h1 : JSt X B P st t) (h2 : JSs X B P rest u) : JSs X B P (st :: rest) (zSeq t u) := by
  refine ⟨fun σ ρ F H fp D g q => wSs_of (pss_cons ps_w pss_w) (wS_mono (h1.run σ ρ F H fp _ g q) ⟨fun σ1 H1 ⟨ρ1, F1, fp1, g1, e1, p1, q1⟩ => ?_, fun _ _ z => z, fun _ _ z => z, fun _ _ z => z⟩)⟩
  exact wSs_mono (h2.run σ1 ρ1 F1 H1 fp1 D g1 q1) (EO.ext e1 p1)
theorem js_never : JSt X B P st zNever := ⟨fun _ _ _ _ _ _ _ q => q.elim⟩
theorem js_ret {t : TPo} (h : JO X B e t) : JSt X B P (.Return (some e) pos) (zRet t) := by
  refine ⟨fun σ ρ F H fp D g q => wS_of (ps_ret pe_w) (wE_mono (h.run σ ρ F H fp _ g q) fun v H1 ⟨o, ρ1, F1, fp1, lo, a1, a2, a3, g1, e1, q1⟩ => ?_)⟩
  exact ⟨o, σ, ρ1, F1, fp1, lo, a1, a2, a3, g1, e1, fun _ _ => rfl, q1⟩
theorem js_retN : JSt X B P (.Return none pos) zRetN :=
  ⟨fun σ ρ F H fp D g q => wS_of ps_retN ⟨.sh .none, σ, ρ, F, fp, [], .sh .non, List.nodup_nil, fun a m => by simp at m, g, Ext.refl.less fun c z => z.elim (fun m => by simp at m) id, fun _ _ => rfl, q⟩⟩
/-- a name is given what is owned by none else -/
theorem Good.store {K : Kb} {σ : L2.St} {ρ : Ev} {F H F0 H0 : Hp} {L : Addr → Prop} {fp : Nat → List Addr} {i : Nat} {v : V} {o : O} {lo : List Addr} (g : Good K σ ρ F H fp) (r : RO K F H v o lo) (nd : lo.Nodup) (h : ∀ a ∈ lo, F a = none ∧ ∀ j, a ∉ fp j) (hi : i < ρ.length)
    (e : Ext F0 H0 L F H (fun a => a ∈ lo ∨ inL fp a)) : ∃ fp', Good K (σ.set i (some v)) (ρ.set i (some o)) F H fp' ∧ Ext F0 H0 L F H (inL fp') :=
  ⟨_, g.put r nd (fun a m => ⟨(h a m).1, fun j _ => (h a m).2 j⟩) hi, e.less fun c z => if_in z⟩
theorem js_set {t : TPo} {i : Nat} {x : Str} (hN : X.N[i]? = some x) (hi : i ∉ P) (hS : ∀ {te : TE}, PE X e te → PS X st (tAsg te (gName i))) (h : JO X B e t) : JSt X B P st (zSet i t) := by
  refine ⟨fun σ ρ F H fp D g q pins s I => (wS_of (hS pe_w) (wE_mono (h.run σ ρ F H fp _ g q) fun v H1 ⟨o, ρ1, F1, fp1, lo, a1, a2, a3, g1, e1, q1⟩ => ?_)) pins s I⟩
  have hl : i < ρ1.length := by
    rw [g1.len, I.len]
    exact (List.getElem?_eq_some_iff.mp hN).1
  obtain ⟨fp', g2, e2⟩ := g1.store a1 a2 a3 hl e1
  refine ⟨_, F1, fp', g2, e2, fun j hj => ?_, q1⟩
  have n : i ≠ j := fun z => hi (z ▸ hj)
  exact List.getElem?_set_ne n
theorem js_expr {t : TPo} (h : JO X B e t) (hs : swapsWith e none pos.line X.env = pure false := by rfl) : JSt X B P (.Expr e pos) (zDrop t) := by
  refine ⟨fun σ ρ F H fp D g q => wS_of (ps_expr pe_w hs) (wE_mono (h.run σ ρ F H fp _ g q) fun v H1 ⟨o, ρ1, F1, fp1, lo, a1, a2, a3, g1, e1, q1⟩ => ?_)⟩
  exact ⟨ρ1, F1, fp1, g1, e1.less fun c z => .inr z, fun _ _ => rfl, q1⟩
theorem js_if {c : Expr} {a b : List Stmt} {tc : TPt} (hc : JT X B c tc) (ha : JSs X B P a t) (hb : JSs X B P b u) : JSt X B P (.If c a b pos) (zIf tc t u) := by
  refine ⟨fun σ ρ F H fp D g q => wS_of (ps_if pt_w pss_w pss_w) (wT_mono (hc.run σ ρ F H fp _ g q) fun c H1 ⟨ρ1, F1, fp1, g1, e1, q1⟩ => ?_)⟩
  cases c with
  | true => rw [if_pos rfl]; exact wSs_mono (ha.run σ ρ1 F1 H1 fp1 D g1 q1) (EO.ext e1 fun _ _ => rfl)
  | false => rw [if_neg Bool.false_ne_true]; exact wSs_mono (hb.run σ ρ1 F1 H1 fp1 D g1 q1) (EO.ext e1 fun _ _ => rfl)
end

/-! ### a name's own list is written -/
/-- x.append(e) -/
def zApp (i : Nat) (t : TPe) : TPS := fun D ρ => match ρ[i]? with
  | some (some (.fl _)) => t ρ fun d ρ' => match ρ'[i]? with
    | some (some (.fl ds)) => ds.length < sizeLine ∧ D.nx (ρ'.set i (some (.fl (ds ++ [d]))))
    | _ => False
  | _ => False
/-- x[k] = e -/
def zPut (i : Nat) (t : TPe) (ti : TPx) : TPS := fun D ρ => t ρ fun d ρ1 => match ρ1[i]? with
  | some (some (.fl _)) => ti ρ1 fun y ρ2 => match res ρ2 y, ρ2[i]? with
    | some (.int k), some (some (.fl ds)) => match ixN ds.length k with
      | some j => D.nx (ρ2.set i (some (.fl (ds.set j d))))
      | none => False
    | _, _ => False
  | _ => False
section
variable {K : Kb} {σ : L2.St} {ρ : Ev} {F H : Hp} {fp : Nat → List Addr}
/-- the list that the name i owns is changed to vs' -/
theorem Good.wlist (g : Good K σ ρ F H fp) {i : Nat} {ds ds' : List D} {vs' : List V} {a : Addr} {vs : List V} (e : ρ[i]? = some (some (.fl ds))) (hv : σ[i]? = some (some (.ref a))) (h : H a = some (.lst vs)) (hf : a ∈ fp i) (hd : DqAll K F vs' ds') :
    ∃ fp', Good K σ (ρ.set i (some (.fl ds'))) F (upd H a (.lst vs')) fp' ∧ Ext F H (inL fp) F (upd H a (.lst vs')) (inL fp') := by
  have nF : F a = none := g.df i a hf
  have nj : ∀ j, j ≠ i → a ∉ fp j := fun j n m => g.dj j i a n m hf
  -- the others as they were
  have g0 := g.drop i
  have g1 : Good K σ (ρ.set i none) F (upd H a (.lst vs')) (fun j => if j = i then [] else fp j) := g0.step (Same.refl F) (fun b x z => by rw [upd_ne (ne_of_none z nF)]; exact g.same b x z)
    (fun b x ⟨j, m⟩ z => by
      have m : b ∈ (if j = i then [] else fp j) := m
      have n : b ≠ a := by
        rintro rfl
        by_cases w : j = i
        · rw [if_pos w] at m; simp at m
        · rw [if_neg w] at m; exact nj j w m
      rw [upd_ne n]; exact z) (fun b ⟨j, m⟩ => g0.df j b m)
  have g2 := g1.alter (i := i) (o := .fl ds') (lo := [a]) hv (.fl upd_same hd) (by simp) (fun b m => by
    simp at m
    subst m
    refine ⟨nF, fun j n m => ?_⟩
    have m : b ∈ (if j = i then [] else fp j) := m
    rw [if_neg n] at m
    exact nj j n m)
  rw [List.set_set] at g2
  refine ⟨_, g2, ⟨Same.refl F, fun b x n z => ?_, fun b x z => ?_, fun b z => ?_, fun b x z => .inl z⟩⟩
  · have n' : b ≠ a := by rintro rfl; exact n ⟨i, hf⟩
    rw [upd_ne n']; exact z
  · by_cases w : b = a
    · subst w; exact ⟨_, upd_same⟩
    · exact ⟨x, by rw [upd_ne w]; exact z⟩
  · rcases if_in z with z | z
    · simp at z; subst z; exact .inl ⟨i, hf⟩
    · rcases if_in z with z | z
      · simp at z
      · exact .inl z
theorem Good.flAt (g : Good K σ ρ F H fp) {i : Nat} {ds : List D} (e : ρ[i]? = some (some (.fl ds))) : ∃ a vs, σ[i]? = some (some (.ref a)) ∧ H a = some (.lst vs) ∧ a ∈ fp i ∧ DqAll K F vs ds := by
  obtain ⟨v, hv, r⟩ := g.loc i _ e
  generalize hl : fp i = l at r
  cases r with
  | fl h1 h2 => exact ⟨_, _, hv, h1, by simp, h2⟩
end
section
variable {X : Cx} {B : Hp} {P : List Nat} {x : Str} {e ix : Expr} {i : Nat} {t : TPe} {ti : TPx} {npos apos cpos pos : Pos}
theorem js_app (hp : PE X (.Name x npos) (tVar i)) (h : JE X B e t)
    (hbase : attributeBase (.Name x npos) "append" X.env (eval (.Name x npos) X.env) = eval (.Name x npos) X.env := by rfl)
    (hfew : ((backTo cpos (starEach [e] X.env)).all (fun x => !x.1) && (backToKw cpos (keywordEach [] X.env)).all (fun x => x.1.isSome)
      && decide (([e] : List Expr).length + ([] : List Keyword).length + (if ([] : List Keyword).isEmpty then 0 else 1) < 30)) = true := by rfl)
    (hline : (apos.endLine == cpos.line) = true := by rfl) (hst : starEach [e] X.env = (false, eval e X.env) :: starEach [] X.env := by rfl) (hplain : (backTo cpos (starEach [] X.env)).any (·.1) = false := by rfl)
    (hs : swapsWith (.Call (.Attribute (.Name x npos) "append" apos) [e] [] cpos) none pos.line X.env = pure false := by rfl) :
    JSt X B P (.Expr (.Call (.Attribute (.Name x npos) "append" apos) [e] [] cpos) pos) (zApp i t) := by
  refine ⟨fun σ ρ F H fp D g q => wS_of (ps_expr (pe_bm PySem.F.plainAttrs_list PySem.F.slot_list_append PySem.F.type_list_append mt_append hp (pa_cons pe_w pa_nil hst) hbase hfew hline hst hplain) hs) ?_⟩
  unfold zApp at q
  split at q
  · rename_i ds e0
    obtain ⟨a, vs, hv, ha, hf, hd⟩ := g.flAt e0
    refine ⟨.ref a, hv, .inl ⟨rfl, vs, .inl (.inl ha)⟩, wE_mono (h.run σ ρ F H fp _ g q) fun w H1 ⟨d, ρ1, F1, fp1, x1, g1, e1, q1⟩ => ?_⟩
    dsimp only at q1
    split at q1
    · rename_i ds1 ed
      obtain ⟨a1, vs1, hv1, ha1, hf1, hd1⟩ := g1.flAt ed
      rw [hv] at hv1; cases hv1
      obtain ⟨fp', g2, e2⟩ := g1.wlist ed hv ha1 hf1 (hd1.append (.one x1))
      exact ⟨a, vs1, w, rfl, rfl, ha1, by rw [hd1.len]; exact q1.1, _, F1, fp', g2, e1.trans e2, fun _ _ => rfl, q1.2⟩
    · exact q1.elim
  · exact q.elim
theorem js_put (hp : PE X (.Name x npos) (tVar i)) (h : JE X B e t) (hi : JX X B ix ti)
    (ha : ∀ v, assign (.Subscript (.Name x npos) ix apos) X.env v = (do
      let ov ← holding [v] (eval (.Name x npos) X.env)
      let iv ← holding [v, ov] (eval ix X.env)
      standAt apos
      holding [v, ov, iv] (setItem ov iv v)
      release [v, ov, iv] []) := by intro _; rfl)
    (hs : swapsWithSole [.Subscript (.Name x npos) ix apos] e pos.line X.env = pure false := by rfl) (hw : swappedStores [.Subscript (.Name x npos) ix apos] e X.env = pure none := by rfl)
    (h1 : (assignEach [.Subscript (.Name x npos) ix apos] X.env).map (·.2) = [assign (.Subscript (.Name x npos) ix apos) X.env] := by rfl) :
    JSt X B P (.Assign [.Subscript (.Name x npos) ix apos] e pos) (zPut i t ti) := by
  refine ⟨fun σ ρ F H fp D g q => wS_of (ps_asg pe_w (pg_sub hp pe_w set_list ha) hs hw h1) (wE_mono (h.run σ ρ F H fp _ g q) fun w H1 ⟨d, ρ1, F1, fp1, x1, g1, e1, q1⟩ => ?_)⟩
  dsimp only at q1
  split at q1
  · rename_i ds1 ed
    obtain ⟨a1, vs1, hv1, ha1, hf1, hd1⟩ := g1.flAt ed
    refine ⟨.ref a1, hv1, wE_mono (hi.run σ ρ1 F1 H1 fp1 _ g1 q1) fun w2 H2 ⟨y, ρ2, F2, fp2, y2, g2, e2, q2⟩ => ?_⟩
    dsimp only at q2
    split at q2
    · rename_i k ds2 ek ed2
      obtain ⟨a2, vs2, hv2, ha2, hf2, hd2⟩ := g2.flAt ed2
      rw [hv1] at hv2; cases hv2
      have rv := res_q g2 y2 ek
      cases rv.int
      split at q2
      · rename_i j ej
        obtain ⟨fp', g3, e3⟩ := g2.wlist ed2 hv1 ha2 hf2 (DqAll.set (x1.mono e2.f) j hd2)
        exact ⟨a1, vs2, k, j, rfl, rfl, ha2, by rw [hd2.len]; exact ej, _, F2, fp', g3, (e1.trans e2).trans e3, fun _ _ => rfl, q2⟩
      · exact q2.elim
    · exact q2.elim
  · exact q1.elim
end

/-! ### what loops walk -/
/-- J gives the data ds, one by one, whatever is frozen or laid behind F -/
structure Feeds (K : Kb) (J : It) (ds : List D) (F : Hp) : Prop where
  stop : ∀ F2 H2 i, Same F F2 → Same F2 H2 → ds.length ≤ i → J.stop i H2
  go : ∀ F2 H2 i d, Same F F2 → Same F2 H2 → ds[i]? = some d → J.go i H2
  yld : ∀ F2 H2 i d x H3, Same F F2 → Same F2 H2 → ds[i]? = some d → J.yld i H2 x H3 → ∃ F3, Dq K F3 x d ∧ Nx F2 H2 F3 H3 []
abbrev TPi := Ev → (List D → Ev → Prop) → Prop
def wI (X : Cx) (tg e : Expr) : TI := fun σ H R => ∀ pins s, Inv X pins σ H s → wpAny (model X.prog X.w) X.A (eval e X.env) (fun v s1 => wpAny (model X.prog X.w) X.A (pyIter v) (PIE X pins σ tg R) X.xe s1) X.xe s
theorem pi_w {X : Cx} {tg e : Expr} : PI X tg e (wI X tg e) := ⟨fun pins s σ H R I h => h pins s I⟩
theorem wI_of {X : Cx} {tg e : Expr} {w : TI} {σ : L2.St} {H : Hp} {R : It → Hp → Prop} (h : PI X tg e w) (q : w σ H R) : wI X tg e σ H R := fun pins s I => h.run pins s σ H R I q
def QI (K : Kb) (σ : L2.St) (F H : Hp) (L : Addr → Prop) (Q : List D → Ev → Prop) : It → Hp → Prop := fun J H' => ∃ ds ρ' F' fp', Feeds K J ds F' ∧ Good K σ ρ' F' H' fp' ∧ Ext F H L F' H' (inL fp') ∧ Q ds ρ'
structure JI (X : Cx) (B : Hp) (tg e : Expr) (t : TPi) : Prop where
  run : ∀ (σ : L2.St) (ρ : Ev) (F H : Hp) (fp : Nat → List Addr) (Q : List D → Ev → Prop), Good (kb X B) σ ρ F H fp → t ρ Q → wI X tg e σ H (QI (kb X B) σ F H (inL fp) Q)
/-- over a list, a tuple; over a text, sign by sign -/
def iSq (t : TPe) : TPi := fun ρ Q => t ρ fun d ρ' => match vw d with
  | .list ds => Q ds ρ'
  | _ => False
def iTp (t : TPe) : TPi := fun ρ Q => t ρ fun d ρ' => match d with
  | .tuple ds => Q ds ρ'
  | _ => False
def iSt (t : TPe) : TPi := fun ρ Q => t ρ fun d ρ' => match d with
  | .str z => Q (z.cps.toList.map fun c => .str (sgn c)) ρ'
  | _ => False
def rng (lo : Int) (n : Nat) : List D := (List.range n).map fun (i : Nat) => .int (lo + (i : Int))
def iRg1 (t : TPx) : TPi := fun ρ Q => t ρ fun x ρ' => match res ρ' x with
  | some (.int j) => -(2 ^ 62) ≤ j ∧ j < 2 ^ 62 ∧ Q (rng 0 j.toNat) ρ'
  | _ => False
def iRg2 (t u : TPx) : TPi := fun ρ Q => t ρ fun x ρ1 => u ρ1 fun y ρ2 => match res ρ2 x, res ρ2 y with
  | some (.int i), some (.int j) => (-(2 ^ 62) ≤ i ∧ i < 2 ^ 62 ∧ -(2 ^ 62) ≤ j ∧ j < 2 ^ 62) ∧ Q (rng i (j - i).toNat) ρ2
  | _, _ => False
section
variable {K : Kb} {F : Hp}
theorem nx_same {F2 H2 : Hp} (s : Same F2 H2) : Nx F2 H2 F2 H2 [] := .refl s
theorem sqL_at {F2 H2 : Hp} {a : Addr} {vs : List V} (h : SqL K.K F a vs) (e : Same F F2) (s : Same F2 H2) : SqL K.K H2 a vs := s.seq (e.seq h)
theorem sqT_at {F2 H2 : Hp} {a : Addr} {vs : List V} (h : SqT K.K F a vs) (e : Same F F2) (s : Same F2 H2) : SqT K.K H2 a vs := same_sqT s (same_sqT e h)
theorem feeds_list {a : Addr} {vs : List V} {ds : List D} (h : SqL K.K F a vs) (hd : DqAll K F vs ds) : Feeds K (Itl K.K a) ds F where
  stop := fun F2 H2 i e s l => ⟨vs, sqL_at h e s, by rw [hd.len]; exact l⟩
  go := fun F2 H2 i d e s q => by
    obtain ⟨v, hv, _⟩ := hd.get q
    exact ⟨vs, v, sqL_at h e s, hv⟩
  yld := fun F2 H2 i d x H3 e s q y => by
    obtain ⟨rfl, y⟩ := y
    obtain ⟨v, hv, dv⟩ := hd.get q
    have := y vs (sqL_at h e s)
    rw [hv] at this; cases this
    exact ⟨F2, dv.mono e, nx_same s⟩
theorem feeds_tup {a : Addr} {vs : List V} {ds : List D} (h : SqT K.K F a vs) (hd : DqAll K F vs ds) : Feeds K (Itt K.K a) ds F where
  stop := fun F2 H2 i e s l => ⟨vs, sqT_at h e s, by rw [hd.len]; exact l⟩
  go := fun F2 H2 i d e s q => by
    obtain ⟨v, hv, _⟩ := hd.get q
    exact ⟨vs, v, sqT_at h e s, hv⟩
  yld := fun F2 H2 i d x H3 e s q y => by
    obtain ⟨rfl, y⟩ := y
    obtain ⟨v, hv, dv⟩ := hd.get q
    have := y vs (sqT_at h e s)
    rw [hv] at this; cases this
    exact ⟨F2, dv.mono e, nx_same s⟩
theorem feeds_str (z : Str) : Feeds K (Its z) (z.cps.toList.map fun c => .str (sgn c)) F where
  stop := fun F2 H2 i e s l => by
    rw [List.length_map, Array.length_toList] at l
    exact l
  go := fun F2 H2 i d e s q => by
    have := (List.getElem?_eq_some_iff.mp q).1
    rw [List.length_map, Array.length_toList] at this
    exact this
  yld := fun F2 H2 i d x H3 e s q y => by
    obtain ⟨rfl, c, hc, rfl⟩ := y
    rw [List.getElem?_map, Array.getElem?_toList, hc] at q
    cases q
    exact ⟨F2, .str _, nx_same s⟩
theorem feeds_range (lo : Int) (n : Nat) : Feeds K (Itr lo n) (rng lo n) F where
  stop := fun F2 H2 i e s l => by
    unfold rng at l
    rw [List.length_map, List.length_range] at l
    exact l
  go := fun F2 H2 i d e s q => by
    have := (List.getElem?_eq_some_iff.mp q).1
    unfold rng at this
    rw [List.length_map, List.length_range] at this
    exact this
  yld := fun F2 H2 i d x H3 e s q y => by
    obtain ⟨rfl, rfl⟩ := y
    have hl := (List.getElem?_eq_some_iff.mp q).1
    unfold rng at q hl
    rw [List.length_map, List.length_range] at hl
    rw [List.getElem?_map, List.getElem?_range hl] at q
    cases q
    exact ⟨F2, .int _, nx_same s⟩
end
section
variable {X : Cx} {B : Hp} {tg e e2 : Expr} {t : TPe} {p pos : Pos}
theorem ji_list (h : JE X B e t) : JI X B tg e (iSq t) := by
  refine ⟨fun σ ρ F H fp Q g q => wI_of (pi_list pe_w) (wE_mono (h.run σ ρ F H fp _ g q) fun v H1 ⟨d, ρ1, F1, fp1, x1, g1, e1, q1⟩ => ?_)⟩
  dsimp only at q1
  have x1 := x1.vw
  revert x1 q1
  generalize vw d = d'
  intro q1 x1
  split at q1
  · cases x1 with
    | lst h1 h2 => exact ⟨_, rfl, ⟨_, g1.same.seq h1⟩, _, ρ1, F1, fp1, feeds_list h1 h2, g1, e1, q1⟩
  · exact q1.elim
theorem ji_tup (h : JE X B e t) : JI X B tg e (iTp t) := by
  refine ⟨fun σ ρ F H fp Q g q => wI_of (pi_tup pe_w) (wE_mono (h.run σ ρ F H fp _ g q) fun v H1 ⟨d, ρ1, F1, fp1, x1, g1, e1, q1⟩ => ?_)⟩
  dsimp only at q1
  split at q1
  · cases x1 with
    | tup h1 h2 => exact ⟨_, rfl, ⟨_, same_sqT g1.same h1⟩, _, ρ1, F1, fp1, feeds_tup h1 h2, g1, e1, q1⟩
  · exact q1.elim
theorem ji_str (h : JE X B e t) : JI X B tg e (iSt t) := by
  refine ⟨fun σ ρ F H fp Q g q => wI_of (pi_str pe_w) (wE_mono (h.run σ ρ F H fp _ g q) fun v H1 ⟨d, ρ1, F1, fp1, x1, g1, e1, q1⟩ => ?_)⟩
  dsimp only at q1
  split at q1
  · cases x1
    exact ⟨_, rfl, _, ρ1, F1, fp1, feeds_str _, g1, e1, q1⟩
  · exact q1.elim
theorem ji_rg1 {t : TPx} (hg : Gl X "range") (hm : X.mg "range" = none) (h : JX X B e t) (hs : starEach [e] X.env = [(false, eval e X.env)] := by rfl) (hs2 : starEach [e] X.env = (false, eval e X.env) :: starEach [] X.env := by rfl) : JI X B tg (.Call (.Name "range" p) [e] [] pos) (iRg1 t) := by
  refine ⟨fun σ ρ F H fp Q g q => wI_of (pi_range1 hg hm (pa_cons pe_w pa_nil hs2) hs) (wE_mono (h.run σ ρ F H fp _ g q) fun v H1 ⟨y, ρ1, F1, fp1, x1, g1, e1, q1⟩ => ?_)⟩
  dsimp only at q1
  split at q1
  · rename_i j ej
    cases (res_q g1 x1 ej).int
    exact ⟨j, rfl, q1.1, q1.2.1, _, ρ1, F1, fp1, feeds_range 0 _, g1, e1, q1.2.2⟩
  · exact q1.elim
theorem ji_rg2 {t u : TPx} (hg : Gl X "range") (hm : X.mg "range" = none) (h : JX X B e t) (h2 : JX X B e2 u) (hs : starEach [e, e2] X.env = [(false, eval e X.env), (false, eval e2 X.env)] := by rfl) (hs2 : starEach [e2] X.env = [(false, eval e2 X.env)] := by rfl)
    (hs3 : starEach [e, e2] X.env = (false, eval e X.env) :: starEach [e2] X.env := by rfl) (hs4 : starEach [e2] X.env = (false, eval e2 X.env) :: starEach [] X.env := by rfl) : JI X B tg (.Call (.Name "range" p) [e, e2] [] pos) (iRg2 t u) := by
  refine ⟨fun σ ρ F H fp Q g q => wI_of (pi_range2 hg hm (pa_cons pe_w (pa_cons pe_w pa_nil hs4) hs3) hs hs2) (wE_mono (h.run σ ρ F H fp _ g q) fun v H1 ⟨y, ρ1, F1, fp1, x1, g1, e1, q1⟩ => wE_mono (h2.run σ ρ1 F1 H1 fp1 _ g1 q1) fun v2 H2 ⟨y2, ρ2, F2, fp2, x2, g2, e2, q2⟩ => ?_)⟩
  dsimp only at q2
  split at q2
  · rename_i i j ei ej
    cases (res_q g2 (x1.mono e2.f) ei).int
    cases (res_q g2 x2 ej).int
    exact ⟨i, j, rfl, q2.1, _, ρ2, F2, fp2, feeds_range i _, g2, e1.trans e2, q2.2⟩
  · exact q2.elim
end

/-! ### targets -/
abbrev TPg := D → Ev → (Ev → Prop) → Prop
def wG (X : Cx) (tg : Expr) : TG := fun v σ H Q => ∀ pins s u, Inv X pins σ H s → RelV v u → wpAny (model X.prog X.w) X.A (assign tg X.env u) (fun _ s' => ∃ σ' H', Inv X pins σ' H' s' ∧ Q σ' H') X.xe s
theorem pg_w {X : Cx} {tg : Expr} : PG X tg (wG X tg) := ⟨fun pins s σ H v u Q I r h => h pins s u I r⟩
theorem wG_of {X : Cx} {tg : Expr} {t : TG} {v : V} {σ : L2.St} {H : Hp} {Q : L2.St → Hp → Prop} (h : PG X tg t) (q : t v σ H Q) : wG X tg v σ H Q := fun pins s u I r => h.run pins s σ H v u Q I r q
/-- S: the places that it writes -/
structure JG (X : Cx) (B : Hp) (S : List Nat) (tg : Expr) (t : TPg) : Prop where
  run : ∀ (σ : L2.St) (ρ : Ev) (F H : Hp) (fp : Nat → List Addr) (v : V) (d : D) (Q : Ev → Prop), Good (kb X B) σ ρ F H fp → Dq (kb X B) F v d → t d ρ Q →
    wG X tg v σ H fun σ' H' => ∃ ρ' fp', H' = H ∧ Good (kb X B) σ' ρ' F H fp' ∧ (∀ a, inL fp' a → inL fp a) ∧ (∀ i, i ∉ S → σ'[i]? = σ[i]?) ∧ Q ρ'
def gNm (i : Nat) : TPg := fun d ρ Q => Q (ρ.set i (some (.sh d)))
/-- a tuple to two, three names -/
def gTp2 (i j : Nat) : TPg := fun d ρ Q => match d with
  | .tuple [a, b] => Q ((ρ.set i (some (.sh a))).set j (some (.sh b)))
  | _ => False
def gTp3 (i j k : Nat) : TPg := fun d ρ Q => match d with
  | .tuple [a, b, c] => Q (((ρ.set i (some (.sh a))).set j (some (.sh b))).set k (some (.sh c)))
  | _ => False
section
variable {K : Kb} {σ : L2.St} {ρ : Ev} {F H : Hp} {fp : Nat → List Addr}
theorem Good.bind (g : Good K σ ρ F H fp) {i : Nat} {v : V} {d : D} (h : Dq K F v d) (hi : i < σ.length) : ∃ fp', Good K (σ.set i (some v)) (ρ.set i (some (.sh d))) F H fp' ∧ ∀ a, inL fp' a → inL fp a :=
  ⟨_, g.put (o := .sh d) (lo := []) (.sh h) List.nodup_nil (fun a m => by simp at m) (by rw [g.len]; exact hi), fun a z => (if_in z).elim (fun m => by simp at m) id⟩
end
section
variable {X : Cx} {B : Hp} {tg : Expr} {x y z : Str} {i j k : Nat} {pos px py pz : Pos}
theorem jg_name (hN : X.N[i]? = some x) (h : PG X (.Name x pos) (gName i)) : JG X B [i] (.Name x pos) (gNm i) := by
  refine ⟨fun σ ρ F H fp v d Q g hd q pins s u I r => (wG_of h ?_) pins s u I r⟩
  have hl := I.len
  obtain ⟨fp', g', l⟩ := g.bind hd (i := i) (by rw [hl]; exact (List.getElem?_eq_some_iff.mp hN).1)
  exact ⟨_, fp', rfl, g', l, fun j n => List.getElem?_set_ne fun e => n (by simp [e]), q⟩
theorem jg_tup2 {kk} (hNi : X.N[i]? = some x) (hNj : X.N[j]? = some y) (h : PG X (.Tuple [.Name x px, .Name y py] kk pos) (gTup X.K 2 (gCons (gName i) (gCons (gName j) gNil)))) : JG X B [i, j] (.Tuple [.Name x px, .Name y py] kk pos) (gTp2 i j) := by
  refine ⟨fun σ ρ F H fp v d Q g hd q pins s u I r => (wG_of h ?_) pins s u I r⟩
  have hl := I.len
  unfold gTp2 at q
  split at q
  · rename_i a b
    cases hd with
    | tup h1 h2 =>
      cases h2 with
      | cons d1 t =>
        cases t with
        | cons d2 t =>
          cases t
          obtain ⟨fp1, g1, l1⟩ := g.bind d1 (i := i) (by rw [hl]; exact (List.getElem?_eq_some_iff.mp hNi).1)
          obtain ⟨fp2, g2, l2⟩ := g1.bind d2 (i := j) (by rw [List.length_set, hl]; exact (List.getElem?_eq_some_iff.mp hNj).1)
          refine ⟨_, _, rfl, same_sqT g.same h1, rfl, _, _, rfl, _, _, rfl, rfl, _, fp2, rfl, g2, fun a z => l1 a (l2 a z), fun m n => ?_, q⟩
          simp at n
          rw [List.getElem?_set_ne fun e => n.2 e.symm, List.getElem?_set_ne fun e => n.1 e.symm]
  · exact q.elim
theorem jg_tup3 {kk} (hNi : X.N[i]? = some x) (hNj : X.N[j]? = some y) (hNk : X.N[k]? = some z) (h : PG X (.Tuple [.Name x px, .Name y py, .Name z pz] kk pos) (gTup X.K 3 (gCons (gName i) (gCons (gName j) (gCons (gName k) gNil))))) : JG X B [i, j, k] (.Tuple [.Name x px, .Name y py, .Name z pz] kk pos) (gTp3 i j k) := by
  refine ⟨fun σ ρ F H fp v d Q g hd q pins s u I r => (wG_of h ?_) pins s u I r⟩
  have hl := I.len
  unfold gTp3 at q
  split at q
  · rename_i a b c
    cases hd with
    | tup h1 h2 =>
      cases h2 with
      | cons d1 t =>
        cases t with
        | cons d2 t =>
          cases t with
          | cons d3 t =>
            cases t
            obtain ⟨fp1, g1, l1⟩ := g.bind d1 (i := i) (by rw [hl]; exact (List.getElem?_eq_some_iff.mp hNi).1)
            obtain ⟨fp2, g2, l2⟩ := g1.bind d2 (i := j) (by rw [List.length_set, hl]; exact (List.getElem?_eq_some_iff.mp hNj).1)
            obtain ⟨fp3, g3, l3⟩ := g2.bind d3 (i := k) (by rw [List.length_set, List.length_set, hl]; exact (List.getElem?_eq_some_iff.mp hNk).1)
            refine ⟨_, _, rfl, same_sqT g.same h1, rfl, _, _, rfl, _, _, rfl, _, _, rfl, rfl, _, fp3, rfl, g3, fun a z => l1 a (l2 a (l3 a z)), fun m n => ?_, q⟩
            simp at n
            rw [List.getElem?_set_ne fun e => n.2.2 e.symm, List.getElem?_set_ne fun e => n.2.1 e.symm, List.getElem?_set_ne fun e => n.1 e.symm]
  · exact q.elim
end

/-! ### for -/
def loopR (g : TPg) (tb : TPS) (rt : O → Ev → Prop) (nx : Ev → Prop) : List D → Ev → Prop
  | [], ρ => nx ρ
  | d :: ds, ρ => g d ρ fun ρ1 => tb { nx := loopR g tb rt nx ds, rt := rt } ρ1
def zFor (ti : TPi) (g : TPg) (tb : TPS) : TPS := fun D ρ => ti ρ fun ds ρ1 => loopR g tb D.rt D.nx ds ρ1
section
variable {X : Cx} {B : Hp} {P S : List Nat} {tg it : Expr} {body : List Stmt} {ti : TPi} {g : TPg} {tb : TPS} {pos : Pos}
theorem Inv.lenN {X : Cx} {pins : List (Addr × Obj)} {σ : L2.St} {H : Hp} {s : Shared} (I : Inv X pins σ H s) : σ.length = X.N.length := I.len
theorem js_for (px : PX X) (hp : PassesOwn (model X.prog X.w) X.A X.env X.xe) (hS : ∀ i ∈ S, i ∉ P) (hi : JI X B tg it ti) (hg : JG X B S tg g) (hb : JSs X B P body tb)
    (hs : ∀ x, foldedSetIterable it X.env x = pure x := by intro _; rfl) : JSt X B P (.For tg it body [] pos) (zFor ti g tb) := by
  refine ⟨fun σ ρ F H fp D gd q pins s I => ?_⟩
  have hlen := I.len
  refine (wS_of (ps_for hp px.calm pi_w pg_w pss_w hs) ?_) pins s I
  -- the iterator, then the invariant
  refine fun pins' s' I' => wpAny_mono (hi.run σ ρ F H fp _ gd q pins' s' I') (fun v s1 h1 => wpAny_mono h1 (fun itv s2 ⟨itA, fpA, tn, J, H1, e0, I2, T, st, ff, ds, ρ1, F1, fp1, fd, g1, e1, q1⟩ => ⟨itA, fpA, tn, J, H1, e0, I2, T, st, ff, ?_⟩) fun _ _ z => z) fun _ _ z => z
  refine ⟨fun i m σ' H' => m = ds.length - i ∧ i ≤ ds.length ∧ ∃ ρ' F' fp', Good (kb X B) σ' ρ' F' H' fp' ∧ Ext F H (inL fp) F' H' (inL fp') ∧ Same F1 F' ∧ (∀ k ∈ P, σ'[k]? = σ[k]?) ∧ loopR g tb D.rt D.nx (ds.drop i) ρ',
    ⟨ds.length, by simp, Nat.zero_le _, ρ1, F1, fp1, g1, e1, Same.refl _, fun _ _ => rfl, q1⟩, ?_⟩
  rintro i m σ2 H2 ⟨rfl, hi', ρ2, F2, fp2, g2, e2, s2', p2, q2⟩
  by_cases hlt : i < ds.length
  · have ed : ds[i]? = some ds[i] := List.getElem?_eq_getElem hlt
    refine .inr ⟨fd.go F2 H2 i _ s2' g2.same ed, fun σ' H' => i + 1 ≤ ds.length ∧ ∃ ρ' F' fp', Good (kb X B) σ' ρ' F' H' fp' ∧ Ext F H (inL fp) F' H' (inL fp') ∧ Same F1 F' ∧ (∀ k ∈ P, σ'[k]? = σ[k]?) ∧ loopR g tb D.rt D.nx (ds.drop (i + 1)) ρ', fun σ' H' hN => ⟨ds.length - (i + 1), by omega, rfl, hN.1, hN.2⟩, fun x H3 y => ?_⟩
    obtain ⟨F3, dx, nx⟩ := fd.yld F2 H2 i _ x H3 s2' g2.same ed y
    have g3 := g2.nx nx
    have e3 : Ext F2 H2 (inL fp2) F3 H3 (inL fp2) := (g2.nxExt nx).less fun c z => .inr z
    rw [List.drop_eq_getElem_cons hlt] at q2
    refine fun pins3 s3 u3 I3 r3 => wpAny_mono (hg.run σ2 ρ2 F3 H3 fp2 x _ _ g3 dx q2 pins3 s3 u3 I3 r3) (fun _ s4 ⟨σ4, H4, I4, ρ4, fp4, hH, g4, l4, k4, q4⟩ => ⟨σ4, H4, I4, ?_⟩) fun _ _ z => z
    subst hH
    have e4 : Ext F H (inL fp) F3 H4 (inL fp4) := (e2.trans e3).less fun c z => l4 c z
    have p4 : ∀ k ∈ P, σ4[k]? = σ[k]? := fun k hk => (k4 k fun z => hS k z hk).trans (p2 k hk)
    refine wSs_mono (hb.run σ4 ρ4 F3 H4 fp4 _ g4 q4) ⟨fun σ5 H5 ⟨ρ5, F5, fp5, g5, e5, p5, q5⟩ => ?_, fun v5 H5 ⟨o, σ5, ρ5, F5, fp5, lo, a1, a2, a3, g5, e5, p5, q5⟩ => ?_, fun _ _ z => z.elim, fun _ _ z => z.elim⟩
    · exact ⟨hlt, ρ5, F5, fp5, g5, e4.trans e5, (s2'.trans nx.f).trans e5.f, fun k hk => (p5 k hk).trans (p4 k hk), q5⟩
    · exact ⟨o, σ5, ρ5, F5, fp5, lo, a1, a2, a3, g5, e4.trans e5, fun k hk => (p5 k hk).trans (p4 k hk), q5⟩
  · have ei : i = ds.length := by omega
    subst ei
    rw [List.drop_length] at q2
    exact .inl ⟨fd.stop F2 H2 _ s2' g2.same (Nat.le_refl _), ρ2, F2, fp2, g2, e2, p2, q2⟩
end
end Pl
/-! The pure layer, part 6: comprehensions, defs, calls. -/
namespace Pl
open PySem PySem.Spec L2

/-! ### comprehensions -/
def wipeE (ρ : Ev) : List Nat → Ev
  | [] => ρ
  | v :: vs => (wipeE ρ vs).set v none
/-- what the block's own names held ahead of it -/
def back (ρ ρ' : Ev) : List Nat → Ev
  | [] => ρ'
  | v :: vs => (back ρ ρ' vs).set v ((ρ[v]?).getD none)
theorem wipeE_len (ρ : Ev) : ∀ vs, (wipeE ρ vs).length = ρ.length
  | [] => rfl
  | v :: vs => by unfold wipeE; rw [List.length_set, wipeE_len ρ vs]
theorem back_len (ρ ρ' : Ev) : ∀ vs, (back ρ ρ' vs).length = ρ'.length
  | [] => rfl
  | v :: vs => by unfold back; rw [List.length_set, back_len ρ ρ' vs]
theorem wipeE_get {ρ : Ev} {i : Nat} {o : O} : ∀ {vs : List Nat}, (wipeE ρ vs)[i]? = some (some o) ↔ (ρ[i]? = some (some o) ∧ i ∉ vs)
  | [] => by simp [wipeE]
  | v :: vs => by
    unfold wipeE
    by_cases e : i = v
    · subst e
      constructor
      · intro h
        rcases get_set h with ⟨_, q⟩ | ⟨n, _⟩
        · cases q
        · exact absurd rfl n
      · rintro ⟨_, n⟩; simp at n
    · rw [List.getElem?_set_ne (Ne.symm e), wipeE_get]
      simp [e]
theorem wipe_get {σ : L2.St} {i : Nat} : ∀ {vs : List Nat}, i ∉ vs → (wipe σ vs)[i]? = σ[i]?
  | [], _ => rfl
  | v :: vs, n => by
    simp at n
    unfold wipe
    rw [List.getElem?_set_ne (Ne.symm n.1)]
    exact wipe_get n.2
theorem wipe_in {σ : L2.St} {i : Nat} : ∀ {vs : List Nat}, i ∈ vs → i < σ.length → (wipe σ vs)[i]? = some none
  | v :: vs, m, hl => by
    unfold wipe
    by_cases e : i = v
    · subst e
      rw [List.getElem?_set_self (by rw [wipe_length]; exact hl)]
    · rw [List.getElem?_set_ne (Ne.symm e)]
      exact wipe_in (by simpa [e] using m) hl
theorem wipe_eq {σ σ2 : L2.St} {vs : List Nat} (hl : σ2.length = σ.length) (h : ∀ i, i ∉ vs → σ2[i]? = σ[i]?) : wipe σ2 vs = wipe σ vs := by
  apply List.ext_getElem?
  intro i
  by_cases m : i ∈ vs
  · by_cases l : i < σ.length
    · rw [wipe_in m l, wipe_in m (by rw [hl]; exact l)]
    · rw [List.getElem?_eq_none (by rw [wipe_length]; omega), List.getElem?_eq_none (by rw [wipe_length]; omega)]
  · rw [wipe_get m, wipe_get m]; exact h i m
theorem back_get {ρ ρ' : Ev} {i : Nat} : ∀ {vs : List Nat}, i ∉ vs → (back ρ ρ' vs)[i]? = ρ'[i]?
  | [], _ => rfl
  | v :: vs, n => by
    simp at n
    unfold back
    rw [List.getElem?_set_ne (Ne.symm n.1)]
    exact back_get n.2
theorem back_in {ρ ρ' : Ev} {i : Nat} : ∀ {vs : List Nat}, i ∈ vs → i < ρ'.length → (back ρ ρ' vs)[i]? = some ((ρ[i]?).getD none)
  | v :: vs, m, hl => by
    unfold back
    by_cases e : i = v
    · subst e
      rw [List.getElem?_set_self (by rw [back_len]; exact hl)]
    · rw [List.getElem?_set_ne (Ne.symm e)]
      exact back_in (by simpa [e] using m) hl
section
variable {K : Kb} {σ σ2 : L2.St} {ρ ρ2 : Ev} {F F2 H H2 : Hp} {fp fp2 : Nat → List Addr} {vs : List Nat}
abbrev fpB (fp : Nat → List Addr) (vs : List Nat) : Nat → List Addr := fun i => if i ∈ vs then [] else fp i
theorem fpB_in {a : Addr} {i : Nat} (m : a ∈ fpB fp vs i) : i ∉ vs ∧ a ∈ fp i := by
  have m : a ∈ (if i ∈ vs then [] else fp i) := m
  by_cases e : i ∈ vs
  · rw [if_pos e] at m; simp at m
  · rw [if_neg e] at m; exact ⟨e, m⟩
theorem Good.wiped (g : Good K σ ρ F H fp) : Good K (wipe σ vs) (wipeE ρ vs) F H (fpB fp vs) where
  same := g.same
  bs := g.bs
  loc := fun i o e => by
    obtain ⟨e1, n⟩ := wipeE_get.mp e
    obtain ⟨v, hv, r⟩ := g.loc i o e1
    refine ⟨v, by rw [wipe_get n]; exact hv, ?_⟩
    show RO K F H v o (if i ∈ vs then [] else fp i)
    rw [if_neg n]; exact r
  off := fun i n => by
    show (if i ∈ vs then [] else fp i) = []
    by_cases m : i ∈ vs
    · rw [if_pos m]
    · rw [if_neg m]
      exact g.off i fun o h => n o (wipeE_get.mpr ⟨h, m⟩)
  nd := fun i => by
    show (if i ∈ vs then [] else fp i).Nodup
    by_cases m : i ∈ vs
    · rw [if_pos m]; exact List.nodup_nil
    · rw [if_neg m]; exact g.nd i
  dj := fun i j a n m m' => by
    obtain ⟨_, m⟩ := fpB_in m
    obtain ⟨_, m'⟩ := fpB_in m'
    exact g.dj i j a n m m'
  df := fun i a m => g.df i a (fpB_in m).2
  len := by rw [wipeE_len, wipe_length]; exact g.len
/-- behind a turn of a block -/
theorem Good.unwiped (g : Good K σ ρ F H fp) (g2 : Good K σ2 ρ2 F2 H2 fp2) (hl : σ2.length = σ.length) (hs : ∀ i, i ∉ vs → σ2[i]? = σ[i]?) (e : Ext F H (inL (fpB fp vs)) F2 H2 (inL fp2)) :
    Good K σ (back ρ ρ2 vs) F2 H2 (fun i => if i ∈ vs then fp i else fp2 i) ∧ Ext F H (inL fp) F2 H2 (inL fun i => if i ∈ vs then fp i else fp2 i) := by
  have apart : ∀ i a, i ∈ vs → a ∈ fp i → ¬ inL (fpB fp vs) a := fun i a hi m ⟨j, mj⟩ => by
    obtain ⟨nj, mj⟩ := fpB_in mj
    exact g.dj i j a (fun z => nj (z ▸ hi)) m mj
  have tr : ∀ i a, a ∈ fp i → ∃ x, H a = some x := fun i a m => g.there ⟨i, m⟩
  have not2 : ∀ i a, i ∈ vs → a ∈ fp i → ¬ inL fp2 a := fun i a hi m q => by
    rcases e.l a q with q | q
    · exact apart i a hi m q
    · obtain ⟨x, z⟩ := tr i a m
      rw [q] at z; cases z
  have fre : ∀ i a, i ∈ vs → a ∈ fp i → F2 a = none := fun i a hi m => by
    rcases none_or F2 a with z | ⟨x, z⟩
    · exact z
    · rcases e.fn a x z with y | y | y
      · rw [g.df i a m] at y; cases y
      · exact absurd y (apart i a hi m)
      · obtain ⟨x', z'⟩ := tr i a m
        rw [y] at z'; cases z'
  have hlen : ρ2.length = ρ.length := by rw [g2.len, hl, g.len]
  refine ⟨⟨g2.same, g2.bs, fun i o q => ?_, fun i n => ?_, fun i => ?_, fun i j a n m => ?_, fun i a m => ?_, ?_⟩, ?_⟩
  · by_cases hi : i ∈ vs
    · have hlt : i < ρ2.length := by
        have := (List.getElem?_eq_some_iff.mp q).1
        rw [back_len] at this; exact this
      rw [back_in hi hlt] at q
      have q1 : ρ[i]? = some (some o) := by
        cases z : ρ[i]? with
        | none => rw [z] at q; cases q
        | some w =>
          rw [z] at q
          have : w = some o := Option.some.inj q
          rw [this]
      obtain ⟨v, hv, r⟩ := g.loc i o q1
      refine ⟨v, hv, ?_⟩
      show RO K F2 H2 v o (if i ∈ vs then fp i else fp2 i)
      rw [if_pos hi]
      exact r.move e.f (fun a x m z => e.h a x (apart i a hi m) z) fun a m => fre i a hi m
    · rw [back_get hi] at q
      obtain ⟨v, hv, r⟩ := g2.loc i o q
      refine ⟨v, by rw [← hs i hi]; exact hv, ?_⟩
      show RO K F2 H2 v o (if i ∈ vs then fp i else fp2 i)
      rw [if_neg hi]; exact r
  · show (if i ∈ vs then fp i else fp2 i) = []
    by_cases hi : i ∈ vs
    · rw [if_pos hi]
      refine g.off i fun o z => n o ?_
      have hlt : i < ρ2.length := by rw [hlen]; exact (List.getElem?_eq_some_iff.mp z).1
      rw [back_in hi hlt, z]; rfl
    · rw [if_neg hi]
      exact g2.off i fun o z => n o (by rw [back_get hi]; exact z)
  · show (if i ∈ vs then fp i else fp2 i).Nodup
    by_cases hi : i ∈ vs
    · rw [if_pos hi]; exact g.nd i
    · rw [if_neg hi]; exact g2.nd i
  · have m : a ∈ (if i ∈ vs then fp i else fp2 i) := m
    show a ∉ (if j ∈ vs then fp j else fp2 j)
    by_cases hi : i ∈ vs
    · rw [if_pos hi] at m
      by_cases hj : j ∈ vs
      · rw [if_pos hj]; exact g.dj i j a n m
      · rw [if_neg hj]; exact fun z => not2 i a hi m ⟨j, z⟩
    · rw [if_neg hi] at m
      by_cases hj : j ∈ vs
      · rw [if_pos hj]; exact fun z => not2 j a hj z ⟨i, m⟩
      · rw [if_neg hj]; exact g2.dj i j a n m
  · have m : a ∈ (if i ∈ vs then fp i else fp2 i) := m
    by_cases hi : i ∈ vs
    · rw [if_pos hi] at m
      rcases none_or F2 a with z | ⟨x, z⟩
      · exact z
      · rcases e.fn a x z with y | y | y
        · rw [g.df i a m] at y; cases y
        · exact absurd y (apart i a hi m)
        · obtain ⟨x', z'⟩ := tr i a m
          rw [y] at z'; cases z'
    · rw [if_neg hi] at m; exact g2.df i a m
  · rw [back_len, hlen]; exact g.len
  · have em := e.more (L2 := inL fp) fun c ⟨j, mj⟩ => ⟨j, (fpB_in mj).2⟩
    refine ⟨em.f, em.h, em.dom, fun a ⟨i, m⟩ => ?_, em.fn⟩
    have m : a ∈ (if i ∈ vs then fp i else fp2 i) := m
    by_cases hi : i ∈ vs
    · rw [if_pos hi] at m; exact .inl ⟨i, m⟩
    · rw [if_neg hi] at m; exact em.l a ⟨i, m⟩
end

/-! a clause's tests -/
def wTs (X : Cx) (ifs : List Expr) : TT := fun σ H Q => ∀ pins s, Inv X pins σ H s → wpAny (model X.prog X.w) X.A (forIn ifs true fun c r => if r = true then do let ok ← isTrue c X.env (eval c X.env); pure (ForInStep.yield ok) else pure (ForInStep.yield r)) (TP X pins σ Q) X.xe s
theorem pts_w {X : Cx} {ifs : List Expr} : PTs X ifs (wTs X ifs) := ⟨fun pins s σ H Q I h => h pins s I⟩
structure JTs (X : Cx) (B : Hp) (ifs : List Expr) (t : TPt) : Prop where
  run : ∀ (σ : L2.St) (ρ : Ev) (F H : Hp) (fp : Nat → List Addr) (Q : Bool → Ev → Prop), Good (kb X B) σ ρ F H fp → t ρ Q → wTs X ifs σ H (QT (kb X B) σ F H (inL fp) Q)
def tYes' : TPt := fun ρ Q => Q true ρ
theorem jts_nil {X : Cx} : JTs X B [] tYes' := ⟨fun σ ρ F H fp Q g q pins s I => pts_nil.run pins s σ H _ I ⟨ρ, F, fp, g, .refl, q⟩⟩
theorem jts_one {X : Cx} {c : Expr} {t : TPt} (h : JT X B c t) : JTs X B [c] t := ⟨fun σ ρ F H fp Q g q pins s I => (pts_one pt_w).run pins s σ H _ I (h.run σ ρ F H fp Q g q)⟩

def lcR (g : TPg) (tt : TPt) (te : TPe) (vs : List Nat) (Q : O → Ev → Prop) : List D → Ev → List D → Prop
  | [], ρ, acc => Q (.fl acc) ρ
  | d :: ds, ρ, acc => g d (wipeE ρ vs) fun ρ1 => tt ρ1 fun b ρ2 => match b with
    | true => te ρ2 fun y ρ3 => lcR g tt te vs Q ds (back ρ ρ3 vs) (acc ++ [y])
    | false => lcR g tt te vs Q ds (back ρ ρ2 vs) acc
def oLc (ti : TPi) (g : TPg) (tt : TPt) (te : TPe) (vs : List Nat) : TPo := fun ρ Q => ti ρ fun ds ρ1 => ds.length ≤ sizeLine ∧ lcR g tt te vs Q ds ρ1 []
section
variable {X : Cx} {B : Hp} {elt tg it : Expr} {ifs : List Expr} {scope : Scope} {own : List (Str × Nat)} {pos : Pos} {ti : TPi} {g : TPg} {tt : TPt} {te : TPe} {S : List Nat}
def gA (X : Cx) (scope : Scope) (tg : Expr) : TG := fun v σ H Q => ∀ (s0 : Shared) (H0 : Hp) (C : Addr) (cl : List (Str × Addr)) (fpA : List Addr), wG (X.blk s0 H0 scope (compEnvC scope cl C X.env) fpA) tg v σ H Q
def tA (X : Cx) (scope : Scope) (ifs : List Expr) : TT := fun σ H Q => ∀ (s0 : Shared) (H0 : Hp) (C : Addr) (cl : List (Str × Addr)) (fpA : List Addr), wTs (X.blk s0 H0 scope (compEnvC scope cl C X.env) fpA) ifs σ H Q
def eA (X : Cx) (scope : Scope) (e : Expr) : TE := fun σ H Q => ∀ (s0 : Shared) (H0 : Hp) (C : Addr) (cl : List (Str × Addr)) (fpA : List Addr), wE (X.blk s0 H0 scope (compEnvC scope cl C X.env) fpA) e σ H Q
/-- the heart: from the readings over trees the layer's own -/
theorem lc_pure (hi : JI X B tg it ti)
    (hg : ∀ (s : Shared) (H : Hp) (C : Addr) (cl : List (Str × Addr)) (fp : List Addr), JG (X.blk s H scope (compEnvC scope cl C X.env) fp) B S tg g)
    (ht : ∀ (s : Shared) (H : Hp) (C : Addr) (cl : List (Str × Addr)) (fp : List Addr), JTs (X.blk s H scope (compEnvC scope cl C X.env) fp) B ifs tt)
    (he : ∀ (s : Shared) (H : Hp) (C : Addr) (cl : List (Str × Addr)) (fp : List Addr), JE (X.blk s H scope (compEnvC scope cl C X.env) fp) B elt te)
    {σ : L2.St} {ρ : Ev} {F H : Hp} {fp : Nat → List Addr} {Q : O → Ev → Prop} {R : VK} (gd : Good (kb X B) σ ρ F H fp) (q : oLc ti g tt te S ρ Q) (kR : σ.length = X.N.length → ∀ v H', QO (kb X B) σ F H (inL fp) Q v H' → R v H') :
    tLc (wI X tg it) (gA X scope tg) (tA X scope ifs) (eA X scope elt) S σ H R := by
  intro pins s I
  have hlen := I.len
  refine wpAny_mono (hi.run σ ρ F H fp _ gd q pins s I) (fun v s1 h1 => wpAny_mono h1 (fun itv s2 ⟨itA, fpA, tn, J, H1, e0, I2, T, st, ff, ds, ρ1, F1, fp1, fd, g1, e1, hz, q1⟩ => ⟨itA, fpA, tn, J, H1, e0, I2, T, st, ff, fun D nD => ?_⟩) fun _ _ z => z) fun _ _ z => z
  have nF1 : F1 D = none := g1.same.free nD
  have nfp1 : ∀ j, D ∉ fp1 j := fun j m => by
    obtain ⟨x, z⟩ := g1.there ⟨j, m⟩
    rw [nD] at z; cases z
  refine ⟨fun i m H' => m = ds.length - i ∧ i ≤ ds.length ∧ ∃ ρ' F' fp' accV acc, H' D = some (.lst accV) ∧ DqAll (kb X B) F' accV acc ∧ acc.length ≤ i ∧ F' D = none ∧ (∀ j, D ∉ fp' j) ∧ Good (kb X B) σ ρ' F' H' fp' ∧
    Ext F H (inL fp) F' H' (fun a => a = D ∨ inL fp' a) ∧ Same F1 F' ∧ lcR g tt te S Q (ds.drop i) ρ' acc, ⟨ds.length, by simp, Nat.zero_le _, ρ1, F1, fp1, [], [], upd_same, .nil, Nat.zero_le _, nF1, nfp1, ?_, ?_, Same.refl _, q1⟩, ?_⟩
  · exact g1.step (Same.refl _) (fun b x z => same_upd nD b x (g1.same b x z)) (fun b x _ z => same_upd nD b x z) fun b m => by obtain ⟨j, m⟩ := m; exact g1.df j b m
  · refine e1.trans ⟨Same.refl _, fun b x _ z => same_upd nD b x z, fun b x z => ⟨x, same_upd nD b x z⟩, fun b z => ?_, fun b x z => .inl z⟩
    rcases z with rfl | z
    · exact .inr nD
    · exact .inl z
  rintro i m H2 ⟨rfl, hi', ρ2, F2, fp2, accV, acc, hD, hacc, hal, nF2, nfp2, g2, e2, s2', q2⟩
  by_cases hlt : i < ds.length
  · have ed : ds[i]? = some ds[i] := List.getElem?_eq_getElem hlt
    rw [List.drop_eq_getElem_cons hlt] at q2
    refine .inr ⟨fd.go F2 H2 i _ s2' g2.same ed, fun H' => i + 1 ≤ ds.length ∧ ∃ ρ' F' fp' accV acc, H' D = some (.lst accV) ∧ DqAll (kb X B) F' accV acc ∧ acc.length ≤ i + 1 ∧ F' D = none ∧ (∀ j, D ∉ fp' j) ∧ Good (kb X B) σ ρ' F' H' fp' ∧
      Ext F H (inL fp) F' H' (fun a => a = D ∨ inL fp' a) ∧ Same F1 F' ∧ lcR g tt te S Q (ds.drop (i + 1)) ρ' acc, fun H' hN => ⟨ds.length - (i + 1), by omega, rfl, hN.1, hN.2⟩, fun x H3 y => ?_⟩
    obtain ⟨F3, dx, nx⟩ := fd.yld F2 H2 i _ x H3 s2' g2.same ed y
    have g3 := g2.nx nx
    have e3 : Ext F2 H2 (inL fp2) F3 H3 (inL fp2) := (g2.nxExt nx).less fun c z => .inr z
    have hD3 : H3 D = some (.lst accV) := nx.h D _ hD
    have nF3 : F3 D = none := by
      rcases none_or F3 D with z | ⟨w, z⟩
      · exact z
      · rcases nx.nw D w z with y | y
        · rw [nF2] at y; cases y
        · rw [hD] at y; cases y
    have gb := g3.wiped (vs := S)
    have hlσ : σ.length = X.N.length := hlen
    intro s0 H0 C cl fpA pins2 s2 u Ib ru
    refine wpAny_mono ((hg s0 H0 C cl fpA).run (wipe σ S) (wipeE ρ2 S) F3 H3 _ x _ _ gb dx q2 pins2 s2 u Ib ru) (fun _ s4 ⟨σ4, H4, I4, ρ4, fp4, hH, g4, l4, k4, q4⟩ => ⟨σ4, H4, I4, ?_⟩) fun _ _ z => z
    subst hH
    have hl4 : σ4.length = σ.length := by rw [hlσ]; exact I4.len
    have k4' : ∀ j, j ∉ S → σ4[j]? = σ[j]? := fun j n => (k4 j n).trans (wipe_get n)
    refine ⟨wipe_eq hl4 k4', ?_⟩
    have e4 : Ext F3 H4 (inL (fpB fp2 S)) F3 H4 (inL fp4) := Ext.refl.less l4
    -- what is owned by the turn is not D
    have keepD : ∀ {F5 H5 : Hp} {fp5 : Nat → List Addr}, Ext F3 H4 (inL (fpB fp2 S)) F5 H5 (inL fp5) → H5 D = some (.lst accV) ∧ F5 D = none ∧ ∀ j, D ∉ fp5 j := fun {F5 H5 fp5} e5 => by
      have nL : ¬ inL (fpB fp2 S) D := fun ⟨j, m⟩ => nfp2 j (fpB_in m).2
      refine ⟨e5.h D _ nL hD3, ?_, fun j m => ?_⟩
      · rcases none_or F5 D with z | ⟨w, z⟩
        · exact z
        · rcases e5.fn D w z with y | y | y
          · rw [nF3] at y; cases y
          · exact absurd y nL
          · rw [hD3] at y; cases y
      · rcases e5.l D ⟨j, m⟩ with z | z
        · exact nL z
        · rw [hD3] at z; cases z
    -- the turn's end, from a state behind it
    have fin : ∀ {F5 H5 : Hp} {ρ5 : Ev} {fp5 : Nat → List Addr}, Good (kb X B) σ4 ρ5 F5 H5 fp5 → Ext F3 H4 (inL (fpB fp2 S)) F5 H5 (inL fp5) → ∀ {accV' : List V} {acc' : List Pl.D}, DqAll (kb X B) F5 accV' acc' → acc'.length ≤ i + 1 → lcR g tt te S Q (ds.drop (i + 1)) (back ρ2 ρ5 S) acc' →
        ∀ H6, (∀ b, b ≠ D → H6 b = H5 b) → H6 D = some (.lst accV') → i + 1 ≤ ds.length ∧ ∃ ρ' F' fp' accV acc, H6 D = some (.lst accV) ∧ DqAll (kb X B) F' accV acc ∧ acc.length ≤ i + 1 ∧ F' D = none ∧ (∀ j, D ∉ fp' j) ∧ Good (kb X B) σ ρ' F' H6 fp' ∧
          Ext F H (inL fp) F' H6 (fun a => a = D ∨ inL fp' a) ∧ Same F1 F' ∧ lcR g tt te S Q (ds.drop (i + 1)) ρ' acc := fun {F5 H5 ρ5 fp5} g5 e5 {accV' acc'} ha hal' ql H6 hH6 hD6 => by
      obtain ⟨d1, d2, d3⟩ := keepD e5
      obtain ⟨g6, e6⟩ := g3.unwiped g5 hl4 k4' e5
      have n6 : ∀ j, D ∉ (fun i => if i ∈ S then fp2 i else fp5 i) j := fun j m => by
        have m : D ∈ (if j ∈ S then fp2 j else fp5 j) := m
        by_cases hj : j ∈ S
        · rw [if_pos hj] at m; exact nfp2 j m
        · rw [if_neg hj] at m; exact d3 j m
      refine ⟨hlt, _, F5, _, accV', acc', hD6, ha, hal', d2, n6, g6.step (Same.refl _) (fun b w z => ?_) (fun b w m z => ?_) (fun b m => ?_), ?_, (s2'.trans nx.f).trans e5.f, ql⟩
      · have nb : b ≠ D := by rintro rfl; rw [d2] at z; cases z
        rw [hH6 b nb]; exact g5.same b w z
      · have nb : b ≠ D := by rintro rfl; obtain ⟨j, m⟩ := m; exact n6 j m
        rw [hH6 b nb]; exact z
      · obtain ⟨j, m⟩ := m; exact g6.df j b m
      · have E := (e2.trans (e3.more (L2 := fun a => a = D ∨ inL fp2 a) fun c z => .inr z)).trans e6
        refine ⟨E.f, fun b w nL z => ?_, fun b w z => ?_, fun b z => ?_, E.fn⟩
        · have nb : b ≠ D := by
            rintro rfl
            have := e2.h b w nL z
            -- D is new behind H
            rcases e2.l b (.inl rfl) with y | y
            · exact nL y
            · rw [z] at y; cases y
          rw [hH6 b nb]; exact E.h b w nL z
        · by_cases nb : b = D
          · subst nb; exact ⟨_, hD6⟩
          · rw [hH6 b nb]; exact E.dom b w z
        · rcases z with rfl | z
          · exact e2.l b (.inl rfl)
          · exact E.l b z
    refine fun s0 H0 C cl fpA pins5 s5 I5 => wpAny_mono ((ht s0 H0 C cl fpA).run σ4 ρ4 F3 H4 fp4 _ g4 q4 pins5 s5 I5) (fun b s6 ⟨H5, I6, ρ5, F5, fp5, g5, e5, q5⟩ => ⟨H5, I6, ?_⟩) fun _ _ z => z
    have e45 := e4.trans e5
    cases b with
    | false =>
      refine iteF ?_
      exact fin g5 e45 (hacc.mono ((nx.f.trans e45.f))) (by omega) q5 H5 (fun _ _ => rfl) (keepD e45).1
    | true =>
      refine iteT fun s0 H0 C cl fpA => ?_
      refine wE_mono ((he s0 H0 C cl fpA).run σ4 ρ5 F5 H5 fp5 _ g5 q5) fun y H7 ⟨d, ρ7, F7, fp7, x7, g7, e7, q7⟩ => ?_
      have e47 := e45.trans e7
      refine ⟨accV, (keepD e47).1, by rw [hacc.len]; omega, ?_⟩
      refine fin g7 e47 ((hacc.mono (nx.f.trans e47.f)).append (.one x7)) ?_ q7 _ (fun b nb => upd_ne nb) upd_same
      rw [List.length_append, List.length_singleton]; omega
  · have ei : i = ds.length := by omega
    subst ei
    rw [List.drop_length] at q2
    refine .inl ⟨fd.stop F2 H2 _ s2' g2.same (Nat.le_refl _), kR hlen _ _ ⟨.fl acc, ρ2, F2, fp2, [D], .fl hD hacc, by simp, fun a m => ?_, g2, e2.less fun c z => ?_, q2⟩⟩
    · simp at m; subst m; exact ⟨nF2, nfp2⟩
    · rcases z with z | z
      · simp at z; exact .inl z
      · exact .inr z
theorem jo_lc (px : PX X) (hi : JI X B tg it ti) (ok : BlkOk X.N X.env.scope scope own) (hS : own.map (·.2) = S)
    (hg : ∀ (s : Shared) (H : Hp) (C : Addr) (cl : List (Str × Addr)) (fp : List Addr), JG (X.blk s H scope (compEnvC scope cl C X.env) fp) B S tg g)
    (ht : ∀ (s : Shared) (H : Hp) (C : Addr) (cl : List (Str × Addr)) (fp : List Addr), JTs (X.blk s H scope (compEnvC scope cl C X.env) fp) B ifs tt)
    (he : ∀ (s : Shared) (H : Hp) (C : Addr) (cl : List (Str × Addr)) (fp : List Addr), JE (X.blk s H scope (compEnvC scope cl C X.env) fp) B elt te)
    (hs : ∀ x, foldedSetIterable it X.env x = pure x := by intro _; rfl) : JO X B (.ListComp elt [⟨tg, it, ifs, 0⟩] scope pos) (oLc ti g tt te S) := by
  subst hS
  refine ⟨fun σ ρ F H fp Q gd q => wE_of (pe_lc (wi := wI X tg it) (g := gA X scope tg) (tt := tA X scope ifs) (te := eA X scope elt) px.calm px.nd pi_w ok (fun s H C cl fp => ⟨fun pins s' σ H v u Q I r h => h _ _ _ _ _ pins s' u I r⟩) (fun s H C cl fp => ⟨fun pins s' σ H Q I h => h _ _ _ _ _ pins s' I⟩) (fun s H C cl fp => ⟨fun pins s' σ H Q I h => h _ _ _ _ _ pins s' I⟩) hs) (lc_pure hi hg ht he gd q fun _ _ _ z => z)⟩
/-- name = [..] on one line -/
theorem js_setLc {P : List Nat} {i : Nat} {y : Str} {py spos : Pos} (px : PX X) (hy : X.N[i]? = some y) (hP : i ∉ P) (hyl : X.env.scope.names.lookup y = some .local)
    (hsw : swapsWith (.ListComp elt [⟨tg, it, ifs, 0⟩] scope pos) (some (.Name y py)) spos.line X.env = pure true) (hi : JI X B tg it ti) (ok : BlkOk X.N X.env.scope scope own) (hS : own.map (·.2) = S)
    (hg : ∀ (s : Shared) (H : Hp) (C : Addr) (cl : List (Str × Addr)) (fp : List Addr), JG (X.blk s H scope (compEnvC scope cl C X.env) fp) B S tg g)
    (ht : ∀ (s : Shared) (H : Hp) (C : Addr) (cl : List (Str × Addr)) (fp : List Addr), JTs (X.blk s H scope (compEnvC scope cl C X.env) fp) B ifs tt)
    (he : ∀ (s : Shared) (H : Hp) (C : Addr) (cl : List (Str × Addr)) (fp : List Addr), JE (X.blk s H scope (compEnvC scope cl C X.env) fp) B elt te)
    (hs : ∀ x, foldedSetIterable it X.env x = pure x := by intro _; rfl) : JSt X B P (.Assign [.Name y py] (.ListComp elt [⟨tg, it, ifs, 0⟩] scope pos) spos) (zSet i (oLc ti g tt te S)) := by
  subst hS
  refine ⟨fun σ ρ F H fp D gd q pins s I => (wS_of (ps_setLc (wi := wI X tg it) (g := gA X scope tg) (tt := tA X scope ifs) (te := eA X scope elt) px.calm px.nd hy hyl hsw pi_w ok (fun s H C cl fp => ⟨fun pins s' σ H v u Q I r h => h _ _ _ _ _ pins s' u I r⟩) (fun s H C cl fp => ⟨fun pins s' σ H Q I h => h _ _ _ _ _ pins s' I⟩) (fun s H C cl fp => ⟨fun pins s' σ H Q I h => h _ _ _ _ _ pins s' I⟩) hs) ?_) pins s I⟩
  refine lc_pure hi hg ht he gd (Q := fun o ρ' => D.nx (ρ'.set i (some o))) q fun hlen v H1 ⟨o, ρ1, F1, fp1, lo, a1, a2, a3, g1, e1, q1⟩ => ?_
  have hl : i < ρ1.length := by
    rw [g1.len, hlen]
    exact (List.getElem?_eq_some_iff.mp hy).1
  obtain ⟨fp', g2, e2⟩ := g1.store a1 a2 a3 hl e1
  refine ⟨_, F1, fp', g2, e2, fun j hj => ?_, q1⟩
  have n : i ≠ j := fun z => hP (z ▸ hj)
  exact List.getElem?_set_ne n
end
end Pl
/-! The pure layer, part 7: what a def promises over trees; its body; its call. -/
namespace Pl
open PySem PySem.Spec L2

/-- a contract: the arguments, and what is wanted of the answer and of the arguments behind the call -/
abbrev Con := List O → (O → List O → Prop) → Prop
def spOf (K : PySem.W.Frag) (C : Con) : Sp := fun vs H Q _ => ∃ B F os l post, Same B F ∧ Same F H ∧ ROs ⟨K, B⟩ F H vs os l ∧ l.Nodup ∧ (∀ a ∈ l, F a = none) ∧ C os post ∧ ∀ r os', post r os' → ∀ v H' F' lr l', RO ⟨K, B⟩ F' H' v r lr → ROs ⟨K, B⟩ F' H' vs os' l' → (lr ++ l').Nodup →
  (∀ a ∈ lr ++ l', F' a = none) → Same F' H' → Ext F H (fun a => a ∈ l) F' H' (fun a => a ∈ lr ++ l') → Q v H'
theorem ROs.len {K : Kb} {F H : Hp} : ∀ {vs : List V} {os : List O} {l : List Addr}, ROs K F H vs os l → vs.length = os.length
  | [], [], _, .nil => rfl
  | _ :: _, _ :: _, _, .cons _ t => by rw [List.length_cons, List.length_cons, ROs.len t]

/-- the parameters behind the body: those of io as they stand, the others as they came -/
def outs (io : List Nat) : Nat → List O → Ev → Option (List O)
  | _, [], _ => some []
  | k, o :: os, ρ => match (match io.contains k with
      | true => match ρ[k]? with
        | some (some o') => some o'
        | _ => none
      | false => match o with
        | .sh d => some (.sh d)
        | .fr ks ds => some (.fr ks ds)
        | _ => none), outs io (k + 1) os ρ with
    | some x, some xs => some (x :: xs)
    | _, _ => none
def dEnds (io : List Nat) (os : List O) (post : O → List O → Prop) : PEnds where
  nx := fun ρ' => match outs io 0 os ρ' with
    | some os' => post (.sh .none) os'
    | none => False
  rt := fun o ρ' => match outs io 0 os ρ' with
    | some os' => post o os'
    | none => False
def start0 (n : Nat) (os : List O) : Ev := os.map some ++ List.replicate (n - os.length) none

section
variable {K : Kb} {F H F' H' : Hp}
theorem ros_split : ∀ {vs : List V} {os : List O} {l : List Addr}, ROs K F H vs os l → l.Nodup → ∃ fp : Nat → List Addr, (∀ i o, os[i]? = some o → ∃ v, vs[i]? = some v ∧ RO K F H v o (fp i)) ∧ (∀ i, os.length ≤ i → fp i = []) ∧
    (∀ i, (fp i).Nodup) ∧ (∀ i j a, i ≠ j → a ∈ fp i → a ∉ fp j) ∧ (∀ i a, a ∈ fp i → a ∈ l)
  | [], [], _, .nil, _ => ⟨fun _ => [], fun i o e => by simp at e, fun _ _ => rfl, fun _ => List.nodup_nil, fun _ _ _ _ m => by simp at m, fun _ _ m => by simp at m⟩
  | v :: vs, o :: os, _, .cons (l := l) (m := m) h t, nd => by
    obtain ⟨n1, n2, n3⟩ := List.nodup_append.mp nd
    obtain ⟨fp, a1, a2, a3, a4, a5⟩ := ros_split t n2
    refine ⟨fun i => match i with
      | 0 => l
      | i + 1 => fp i, fun i o' e => ?_, fun i hi => ?_, fun i => ?_, fun i j a n mi mj => ?_, fun i a mi => ?_⟩
    · cases i with
      | zero =>
        have e' : o = o' := Option.some.inj e
        subst e'
        exact ⟨v, rfl, h⟩
      | succ i => exact a1 i o' e
    · cases i with
      | zero => exact absurd hi (by simp)
      | succ i => exact a2 i (by simpa using hi)
    · cases i with
      | zero => exact n1
      | succ i => exact a3 i
    · cases i with
      | zero =>
        cases j with
        | zero => exact n rfl
        | succ j => exact n3 a mi a (a5 j a mj) rfl
      | succ i =>
        cases j with
        | zero => exact n3 a mj a (a5 i a mi) rfl
        | succ j => exact a4 i j a (fun z => n (by rw [z])) mi mj
    · cases i with
      | zero => exact List.mem_append_left _ mi
      | succ i => exact List.mem_append_right _ (a5 i a mi)
theorem outs_ros {io : List Nat} {σ' : L2.St} {ρ' : Ev} {fp' : Nat → List Addr} (g : Good K σ' ρ' F' H' fp') (e : Same F F') : ∀ {vs : List V} {os : List O} {l : List Addr} {os' : List O} (k : Nat), ROs K F H vs os l → (∀ i v, vs[i]? = some v → k + i ∈ io → σ'[k + i]? = some (some v)) → outs io k os ρ' = some os' →
    ∃ l', ROs K F' H' vs os' l' ∧ l'.Nodup ∧ ∀ a ∈ l', ∃ j, k ≤ j ∧ a ∈ fp' j
  | [], [], _, os', k, .nil, _, q => by
    cases q
    exact ⟨[], .nil, List.nodup_nil, fun _ m => by simp at m⟩
  | v :: vs, o :: os, _, os', k, .cons h t, hs, q => by
    unfold outs at q
    split at q
    · rename_i x xs e1 e2
      cases q
      obtain ⟨l', r', nd', in'⟩ := outs_ros g e (k + 1) t (fun i w hw hk => by
        have := hs (i + 1) w hw (by rw [show k + (i + 1) = k + 1 + i by omega]; exact hk)
        rw [show k + (i + 1) = k + 1 + i by omega] at this
        exact this) e2
      split at e1
      · rename_i ec
        have hk : k + 0 ∈ io := by simpa using ec
        split at e1
        · rename_i o' er
          cases e1
          obtain ⟨v', hv, r⟩ := g.loc k x er
          have hv' := hs 0 v rfl hk
          rw [Nat.add_zero, hv] at hv'
          cases hv'
          refine ⟨fp' k ++ l', .cons r r', List.nodup_append.mpr ⟨g.nd k, nd', fun a ma b mb hab => ?_⟩, fun a m => ?_⟩
          · subst hab
            obtain ⟨j, hj, mj⟩ := in' a mb
            exact g.dj k j a (by omega) ma mj
          · rcases List.mem_append.mp m with m | m
            · exact ⟨k, Nat.le_refl _, m⟩
            · obtain ⟨j, hj, mj⟩ := in' a m
              exact ⟨j, by omega, mj⟩
        · cases e1
      · split at e1
        · cases e1
          cases h with
          | sh h => exact ⟨[] ++ l', .cons (.sh (h.mono e)) r', nd', fun a m => let ⟨j, hj, mj⟩ := in' a m; ⟨j, by omega, mj⟩⟩
        · cases e1
          cases h with
          | fr h1 h2 h3 => exact ⟨[] ++ l', .cons (.fr (e _ _ h1) h2 (h3.mono e)) r', nd', fun a m => let ⟨j, hj, mj⟩ := in' a m; ⟨j, by omega, mj⟩⟩
        · cases e1
    · cases q
end

/-! ### defs, where no repr is under way -/
/-- a def as it stands behind the top, with defaults or without -/
structure FunA (K : PySem.W.Frag) (x qual : Str) (st : Stmt) (f : Addr) (fd : FuncData) : Prop where
  ex : ∃ (oc : Value) (od : Option Addr) (dV kV doc pm : Value) (an : Option Addr) (cdv ct : Value) (osl : Array (Option Value)),
    fd = PySem.W.fnOf x qual (defArgs st) (defBody st) (defScope st) dV kV doc pm an cdv ct ∧ K.lookup f = some ⟨oc, od, .func fd, osl⟩ ∧ PySem.W.codeIn K cdv qual = true
  kp : PySem.W.keepIn K (.ref f) = true
theorem toA {K : PySem.W.Frag} {x qual : Str} {st : Stmt} {f : Addr} {fd : FuncData} (F : Fun K x qual st f fd) : FunA K x qual st f fd := by
  obtain ⟨oc, od, kV, doc, pm, an, cdv, ct, osl, e, lk, hcd⟩ := F.ex
  exact ⟨⟨oc, od, .none, kV, doc, pm, an, cdv, ct, osl, e, lk, hcd⟩, F.kp⟩
theorem toAD {K : PySem.W.Frag} {x qual : Str} {st : Stmt} {f : Addr} {fd : FuncData} {dvs : List V} {kws : List (Str × V)} (F : FunD K x qual (defArgs st) (defBody st) (defScope st) dvs kws f fd) : FunA K x qual st f fd := by
  obtain ⟨oc, od, dV, kV, doc, pm, an, cdv, ct, osl, e, lk, hcd, _, _⟩ := F.ex
  exact ⟨⟨oc, od, dV, kV, doc, pm, an, cdv, ct, osl, e, lk, hcd⟩, F.kp⟩
theorem funD_mk {K : PySem.W.Frag} {x qual : Str} {st : Stmt} {f T : Addr} {oc tc : Value} {od td an : Option Addr} {osl ts : Array (Option Value)} {kV doc pm cdv ct : Value} {tn : Nat} (l : K.lookup f = some ⟨oc, od, .func (PySem.W.fnOf x qual (defArgs st) (defBody st) (defScope st) (.ref T) kV doc pm an cdv ct), osl⟩)
    (c : PySem.W.codeIn K cdv qual = true) (k : PySem.W.keepIn K (.ref f) = true) (t : K.lookup T = some ⟨tc, td, .seq #[.none] tn, ts⟩) : FunD K x qual (defArgs st) (defBody st) (defScope st) [.non] [] f (PySem.W.fnOf x qual (defArgs st) (defBody st) (defScope st) (.ref T) kV doc pm an cdv ct) :=
  ⟨⟨oc, od, .ref T, kV, doc, pm, an, cdv, ct, osl, rfl, l, c, .inr ⟨by simp, T, _, [Value.none], tn, rfl, t, rfl, .cons rfl .nil⟩, .inl rfl⟩, k⟩
structure FnG (P : Program) (w : World) (K : PySem.W.Frag) (mg : Str → Option Value) (base : Heap) (k : Nat) (f : Addr) (fd : FuncData) (ps : List Str) (sp : Sp) : Prop where
  len : ∀ vs H Q E, sp vs H Q E → vs.length = ps.length
  run : ∀ (A : Around) (outer : List Env) (s : Shared) (H : Hp) (args : Args) (us : List Value) (vs : List V) (Q : VK) (E : XK), Room k A → A.guards = some [] → Env0 P w K mg base A outer s H → BindsTo s fd args (ps.zip us) → Vals vs us → sp vs H Q E →
    codeAny (model P w) A (.call (.ref f) args) (CR CX0 outer P w H s Q E) s
section
variable {P : Program} {w : World} {K : PySem.W.Frag} {mg : Str → Option Value} {base : Heap}
theorem FnG.mono {j k : Nat} {f : Addr} {fd : FuncData} {ps : List Str} {sp : Sp} (F : FnG P w K mg base j f fd ps sp) (h : j ≤ k) : FnG P w K mg base k f fd ps sp := ⟨F.len, fun A outer s H args us vs Q E hr => F.run A outer s H args us vs Q E (hr.mono h)⟩
theorem FnG.imp {k : Nat} {f : Addr} {fd : FuncData} {ps : List Str} {sp sp' : Sp} (F : FnG P w K mg base k f fd ps sp) (h : ∀ vs H Q E, sp' vs H Q E → sp vs H Q E) : FnG P w K mg base k f fd ps sp' :=
  ⟨fun vs H Q E q => F.len vs H Q E (h _ _ _ _ q), fun A outer s H args us vs Q E hr hg he hb hv hs => F.run A outer s H args us vs Q E hr hg he hb hv (h _ _ _ _ hs)⟩
theorem fnG_of {x qual : Str} {st : Stmt} {f : Addr} {fd : FuncData} {N ps : List Str} {k : Nat} {sp : Sp} (F : FunA K x qual st f fd) (S : FnScope N ps (defScope st)) (len : ∀ vs H Q E, sp vs H Q E → vs.length = ps.length)
    (hbody : ∀ (cdv : Value) (A : Around) (outer : List Env) (s : Shared) (H : Hp) (vs : List V) (Q : VK) (E : XK), Room k (A.deeper (PyProof.Rows.envOfC qual (defScope st) s.heap.objs.size f cdv)) → A.guards = some [] → sp vs H Q E →
      ∃ t, PSs (cxOf CX0 P w K mg base N qual (defScope st) f cdv A outer s H E).nox (defBody st) t ∧ t { nx := fun _ H' => Q .non H', rt := Q } (L2.start N vs) H) : FnG P w K mg base (k + 1) f fd ps sp := by
  obtain ⟨oc, od, dV, kV, doc, pm, an, cdv, ct, osl, rfl, lk, hcd⟩ := F.ex
  refine ⟨len, fun A outer s H args us vs Q E hr hgd e0 hb r hsp => ?_⟩
  have KX : K.In s.heap := e0.mod.kin.keeps fun b o e => (e0.bs b o e).1
  have lim := e0.mod.nolimit.keeps (h' := s.heap) fun b o e => (e0.bs b o e).1
  refine codeAny_call_function hr.depth (KX _ _ lk) rfl S.co S.gen rfl (PySem.W.codeRec_of KX hcd) (hb _ _ _ _ ?_)
  refine wpAny_newFunctionEnv_cells S.kind (fun y hy => ?_) fun env he s1 x => ?_
  · rcases S.par y.1 (List.of_mem_zip (show (y.1, y.2) ∈ ps.zip us from hy)).1 with q | q
    · exact .inl q
    · exact .inr ⟨q, PySem.W.cellsFrom_some _ _ _ (.inl q)⟩
  subst he
  refine ⟨lim.keeps x.toInCall.keep, codeAny_func ?_⟩
  obtain ⟨t, ht, hq⟩ := hbody cdv A outer s H vs Q E (hr.deeper _) hgd hsp
  have J0 : Inv (cxOf CX0 P w K mg base N qual (defScope st) f cdv A outer s H E) [] (L2.start N vs) H s1 := inv_start S hr.hd e0 (len _ _ _ _ hsp) r x
  refine wpAny_mono (ht.nox.run [] s1 (L2.start N vs) H _ J0 hq) (fun fl s' hs => ?_) fun e s' hs => hs
  cases fl with
  | ret u =>
    obtain ⟨v, σ', H', J, rv, q⟩ := hs
    exact ⟨v, H', J.os, J.bare, J.base, J.hok, rv, q⟩
  | next =>
    obtain ⟨σ', H', J, q⟩ := hs
    exact ⟨.non, H', J.os, J.bare, J.base, J.hok, rfl, q⟩
  | brk => obtain ⟨_, _, _, q⟩ := hs; exact q.elim
  | cont => obtain ⟨_, _, _, q⟩ := hs; exact q.elim
end
section
variable {X : Cx} {k : Nat} {f : Addr} {fd : FuncData} {ps : List Str} {sp : Sp} {dvs : List V} {ds : List Value} {x : Str} {p pos : Pos} {e : Expr} {es : List Expr} {t : TA}
theorem run_fnG {pins : List (Addr × Obj)} {σ : L2.St} {H : Hp} {s : Shared} {Q : VK} {us : List Value} {vs : List V} (F : FnG X.prog X.w X.K X.mg X.base k f fd ps sp) (px : PX X) (hr : Room k X.A) (hb : Binds X.K fd ps ds) (hd : Vals dvs ds)
    (I : Inv X pins σ H s) (r : Vals vs us) (h : sp (vs ++ dvs) H Q E0) : wpAny (model X.prog X.w) X.A (call (.ref f) us) (EP X pins σ Q) X.xe s := by
  have r2 := r.append hd
  refine wpAny_call (codeAny_mono (F.run X.A X.stack s H ⟨us, []⟩ (us ++ ds) (vs ++ dvs) Q E0 hr px.gd I.env0 (hb s us I.kIn (by rw [← r2.length]; exact F.len _ _ _ _ h)) r2 h) fun r s' hq => ?_)
  cases r with
  | error e => exact False.elim hq
  | ok fl =>
    cases fl with
    | ret u => exact I.after hq
    | next => exact False.elim hq
    | brk => exact False.elim hq
    | cont => exact False.elim hq
theorem pe_callG (F : FnG X.prog X.w X.K X.mg X.base k f fd ps sp) (px : PX X) (hr : Room k X.A) (hg : Gl X x) (hm : X.mg x = some (.ref f)) (hk : PySem.W.keepIn X.K (.ref f) = true) (hb : Binds X.K fd ps ds) (hd : Vals dvs ds)
    (ha : PA X (e :: es) t) (hdb : (x == ("__debug__" : Str)) = false := by decide) (he : starEach (e :: es) X.env = (false, eval e X.env) :: starEach es X.env := by rfl) (hpl : (backTo pos (starEach es X.env)).any (·.1) = false := by rfl) :
    PE X (.Call (.Name x p) (e :: es) [] pos) (tCall sp dvs E0 t) :=
  ⟨fun pins s σ H Q I h => wpAny_Call_Name_kw (ld_glob I hg hm (PySem.W.callWith_K (h₀ := X.base) I.ok.mod.kin hk (thn (ha.run pos pins s σ H _ I h) fun us s1 ⟨vs, H1, I1, r, q⟩ => ⟨I1.kIn, run_fnG F px hr hb hd I1 r q⟩) he hpl) hdb)⟩
theorem pe_callG0 (F : FnG X.prog X.w X.K X.mg X.base k f fd ps sp) (px : PX X) (hr : Room k X.A) (hg : Gl X x) (hm : X.mg x = some (.ref f)) (hk : PySem.W.keepIn X.K (.ref f) = true) (hb : Binds X.K fd ps ds) (hd : Vals dvs ds) (hdb : (x == ("__debug__" : Str)) = false := by decide) :
    PE X (.Call (.Name x p) [] [] pos) (tCall sp dvs E0 tNil) :=
  ⟨fun pins s σ H Q I h => wpAny_Call_Name_kw (ld_glob I hg hm (PySem.W.callWith_K0 I.kIn hk (run_fnG (us := []) F px hr hb hd I .nil h)) hdb)⟩
end

section
variable {P : Program} {w : World} {K : PySem.W.Frag} {mg : Str → Option Value} {base : Heap}
theorem start_get {N : List Str} {vs : List V} {i : Nat} {v : V} (e : vs[i]? = some v) : (L2.start N vs)[i]? = some (some v) := by
  unfold L2.start
  have hi : i < vs.length := (List.getElem?_eq_some_iff.mp e).1
  rw [List.getElem?_append_left (by simpa using hi), List.getElem?_map, e]
  rfl
/-- THE RULE for a def: its body's reading over trees -/
theorem fn_ok {x qual : Str} {st : Stmt} {f : Addr} {fd : FuncData} {N ps : List Str} {k : Nat} {C : Con} {io : List Nat} {t : TPS} (F : FunA K x qual st f fd) (S : FnScope N ps (defScope st))
    (hC : ∀ os post, C os post → os.length = ps.length ∧ t (dEnds io os post) (start0 N.length os))
    (hb : ∀ (B : Hp) (cdv : Value) (A : Around) (outer : List Env) (s : Shared) (H : Hp) (E : XK), A.guards = some [] → Room k (A.deeper (PyProof.Rows.envOfC qual (defScope st) s.heap.objs.size f cdv)) →
      JSs (cxOf CX0 P w K mg base N qual (defScope st) f cdv A outer s H E).nox B io (defBody st) t) : FnG P w K mg base (k + 1) f fd ps (spOf K C) := by
  refine fnG_of F S (fun vs H Q E h => ?_) (fun cdv A outer s H vs Q E hr hgd h => ?_)
  · obtain ⟨B0, F0, os, l, post, _, _, r, _, _, c, _⟩ := h
    rw [r.len]; exact (hC _ _ c).1
  · obtain ⟨B0, F0, os, l, post, sb, sa, r, nd, df, c, kp⟩ := h
    obtain ⟨hl, q⟩ := hC _ _ c
    obtain ⟨fp, a1, a2, a3, a4, a5⟩ := ros_split r nd
    have hvl := r.len
    have hpl : ps.length ≤ N.length := by have := congrArg List.length S.pre; rw [List.length_take] at this; omega
    have gd : Good ⟨K, B0⟩ (L2.start N vs) (start0 N.length os) F0 H fp := by
      refine ⟨sa, sb, fun i o e => ?_, fun i n => ?_, a3, a4, fun i a m => df a (a5 i a m), ?_⟩
      · unfold start0 at e
        by_cases hi : i < os.length
        · rw [List.getElem?_append_left (by simpa using hi), List.getElem?_map] at e
          cases z : os[i]? with
          | none => rw [z] at e; cases e
          | some o' =>
            rw [z] at e; cases e
            obtain ⟨v, hv, r'⟩ := a1 i o z
            exact ⟨v, start_get hv, r'⟩
        · rw [List.getElem?_append_right (by simpa using hi), List.getElem?_replicate] at e
          split at e <;> cases e
      · by_cases hi : i < os.length
        · refine absurd ?_ (n os[i])
          unfold start0
          rw [List.getElem?_append_left (by simpa using hi), List.getElem?_map, List.getElem?_eq_getElem hi]
          rfl
        · exact a2 i (by omega)
      · unfold start0 L2.start
        rw [List.length_append, List.length_append, List.length_map, List.length_map, List.length_replicate, List.length_replicate, hvl]
    refine ⟨_, pss_w, ?_⟩
    refine wSs_mono ((hb B0 cdv A outer s H E hgd hr).run _ _ _ _ _ _ gd q) ⟨fun σ' H' ⟨ρ', F', fp', g', e', p', q'⟩ => ?_, fun v H' ⟨o, σ', ρ', F', fp', lo, b1, b2, b3, g', e', p', q'⟩ => ?_, fun _ _ z => z, fun _ _ z => z⟩
    · dsimp only [dEnds] at q'
      split at q'
      · rename_i os' eo
        obtain ⟨l', r', nd', in'⟩ := outs_ros g' e'.f 0 r (fun i v hv hi => by rw [Nat.zero_add] at hi ⊢; rw [p' i hi]; exact start_get hv) eo
        refine kp _ _ q' .non H' F' [] l' (.sh .non) r' nd' (fun a m => ?_) g'.same ?_
        · obtain ⟨j, _, mj⟩ := in' a (by simpa using m)
          exact g'.df j a mj
        · refine (e'.more (L2 := fun a => a ∈ l) fun c ⟨i, m⟩ => a5 i c m).less fun c m => ?_
          obtain ⟨j, _, mj⟩ := in' c (by simpa using m)
          exact ⟨j, mj⟩
      · exact q'.elim
    · dsimp only [dEnds] at q'
      split at q'
      · rename_i os' eo
        obtain ⟨l', r', nd', in'⟩ := outs_ros g' e'.f 0 r (fun i v hv hi => by rw [Nat.zero_add] at hi ⊢; rw [p' i hi]; exact start_get hv) eo
        refine kp _ _ q' v H' F' lo l' b1 r' (List.nodup_append.mpr ⟨b2, nd', fun a ma b mb hab => ?_⟩) (fun a m => ?_) g'.same ?_
        · subst hab
          obtain ⟨j, _, mj⟩ := in' a mb
          exact (b3 a ma).2 j mj
        · rcases List.mem_append.mp m with m | m
          · exact (b3 a m).1
          · obtain ⟨j, _, mj⟩ := in' a m
            exact g'.df j a mj
        · refine (e'.more (L2 := fun a => a ∈ l) fun c ⟨i, m⟩ => a5 i c m).less fun c m => ?_
          rcases List.mem_append.mp m with m | m
          · exact .inl m
          · obtain ⟨j, _, mj⟩ := in' c m
            exact .inr ⟨j, mj⟩
      · exact q'.elim
end

/-! ### calls -/
/-- a def of the module that is called by its name x; dv: the defaults that fill up -/
def Callee (P : Program) (w : World) (K : PySem.W.Frag) (mg : Str → Option Value) (base : Heap) (k : Nat) (x : Str) (dv : List D) (C : Con) : Prop :=
  ∃ f fd ps ds dvs, FnG P w K mg base k f fd ps (spOf K C) ∧ mg x = some (.ref f) ∧ PySem.W.keepIn K (.ref f) = true ∧ Binds K fd ps ds ∧ Vals dvs ds ∧ ∀ B F, DqAll ⟨K, B⟩ F dvs dv
theorem Callee.imp {P : Program} {w : World} {K : PySem.W.Frag} {mg : Str → Option Value} {base : Heap} {k j : Nat} {x : Str} {dv : List D} {C C' : Con} (h : Callee P w K mg base k x dv C) (hc : ∀ os post, C' os post → C os post) (hk : k ≤ j) : Callee P w K mg base j x dv C' := by
  obtain ⟨f, fd, ps, ds, dvs, a, b, c, d, e, g⟩ := h
  exact ⟨f, fd, ps, ds, dvs, (a.mono hk).imp fun vs H Q E ⟨B, F, os, l, post, h0, h1, h2, h3, h4, h5, h6⟩ => ⟨B, F, os, l, post, h0, h1, h2, h3, h4, hc _ _ h5, h6⟩, b, c, d, e, g⟩
def opsOf (ρ : Ev) : List Op → Option (List O)
  | [] => some []
  | .val d :: ps => match opsOf ρ ps with
    | some os => some (.sh (vw d) :: os)
    | none => none
  | .pl i :: ps => match ρ[i]?, opsOf ρ ps with
    | some (some o), some os => some (o :: os)
    | _, _ => none
def slots : List Op → List Nat
  | [] => []
  | .val _ :: ps => slots ps
  | .pl i :: ps => i :: slots ps
def apart : List Nat → Bool
  | [] => true
  | i :: r => !r.contains i && apart r
theorem apart_nd : ∀ {l : List Nat}, apart l = true → l.Nodup
  | [], _ => List.nodup_nil
  | i :: r, h => by
    unfold apart at h
    rw [Bool.and_eq_true] at h
    exact List.nodup_cons.mpr ⟨by simpa using h.1, apart_nd h.2⟩
def clear (ρ : Ev) : List Nat → Ev
  | [] => ρ
  | i :: r => (clear ρ r).set i none
def upds : List Op → List O → Ev → Ev
  | .pl i :: ps, o :: os, ρ => upds ps os (ρ.set i (some o))
  | .val _ :: ps, _ :: os, ρ => upds ps os ρ
  | _, _, ρ => ρ
def oCall (C : Con) (dv : List D) (ts : TPs) : TPo := fun ρ Q => ts ρ fun ps ρ1 => match opsOf ρ1 ps with
  | some os => match apart (slots ps) with
    | true => C (os ++ dv.map .sh) fun r os' => Q r (upds ps os' (clear ρ1 (slots ps)))
    | false => False
  | none => False
section
variable {K : Kb} {σ : L2.St} {ρ : Ev} {F H F' H' : Hp} {fp : Nat → List Addr}
theorem ops_ros (g : Good K σ ρ F H fp) : ∀ {vs : List V} {ps : List Op} {os : List O}, OpsAre K F σ vs ps → opsOf ρ ps = some os → (slots ps).Nodup → ∃ l, ROs K F H vs os l ∧ l.Nodup ∧ (∀ a ∈ l, ∃ i ∈ slots ps, a ∈ fp i) ∧ ∀ i ∈ slots ps, ∀ a ∈ fp i, a ∈ l
  | [], [], _, .nil, e, _ => by
    cases e
    exact ⟨[], .nil, List.nodup_nil, fun _ m => by simp at m, fun _ m => by simp [slots] at m⟩
  | v :: vs, .val d :: ps, os, .cons h t, e, nd => by
    unfold opsOf at e
    split at e
    · rename_i os' e2
      cases e
      obtain ⟨l, a1, a2, a3, a4⟩ := ops_ros g t e2 nd
      exact ⟨[] ++ l, .cons (.sh (Dq.vw h)) a1, a2, a3, a4⟩
    · cases e
  | v :: vs, .pl i :: ps, os, .cons h t, e, nd => by
    unfold opsOf at e
    split at e
    · rename_i o os' e1 e2
      cases e
      obtain ⟨n1, n2⟩ := List.nodup_cons.mp (show (i :: slots ps).Nodup from nd)
      obtain ⟨l, a1, a2, a3, a4⟩ := ops_ros g t e2 n2
      obtain ⟨v', hv, r⟩ := g.loc i o e1
      have h : σ[i]? = some (some v) := h
      rw [h] at hv; cases hv
      refine ⟨fp i ++ l, .cons r a1, List.nodup_append.mpr ⟨g.nd i, a2, fun a ma b mb hab => ?_⟩, fun a m => ?_, fun j mj a ma => ?_⟩
      · subst hab
        obtain ⟨j, hj, mj⟩ := a3 a mb
        exact g.dj i j a (fun z => n1 (z ▸ hj)) ma mj
      · rcases List.mem_append.mp m with m | m
        · exact ⟨i, List.mem_cons_self, m⟩
        · obtain ⟨j, hj, mj⟩ := a3 a m
          exact ⟨j, List.mem_cons_of_mem _ hj, mj⟩
      · rcases List.mem_cons.mp (show j ∈ i :: slots ps from mj) with rfl | mj
        · exact List.mem_append_left _ ma
        · exact List.mem_append_right _ (a4 j mj a ma)
    · cases e
theorem ros_app {dvs : List V} {dv : List D} (hd : DqAll K F dvs dv) : ∀ {vs : List V} {os : List O} {l : List Addr}, ROs K F H vs os l → ROs K F H (vs ++ dvs) (os ++ dv.map .sh) l
  | [], [], _, .nil => by
    have go : ∀ {dvs : List V} {dv : List D}, DqAll K F dvs dv → ROs K F H dvs (dv.map .sh) [] := by
      intro dvs dv h
      induction h using DqAll.rec (motive_1 := fun _ _ _ => True) with
      | nil => exact .nil
      | cons h1 h2 _ ih => exact .cons (l := []) (.sh h1) ih
      | _ => trivial
    exact go hd
  | _ :: _, _ :: _, _, .cons h t => .cons h (ros_app hd t)
theorem clear_len : ∀ {S : List Nat}, (clear ρ S).length = ρ.length
  | [] => rfl
  | i :: r => by unfold clear; rw [List.length_set, clear_len]
theorem Good.cleared (g : Good K σ ρ F H fp) : ∀ S : List Nat, Good K σ (clear ρ S) F H (fun i => if i ∈ S then [] else fp i)
  | [] => by
    have e : (fun i => if i ∈ ([] : List Nat) then [] else fp i) = fp := by funext i; simp
    rw [e]; exact g
  | i :: r => by
    have z := (g.cleared r).drop i
    have e : (fun j => if j = i then [] else (fun i => if i ∈ r then [] else fp i) j) = fun j => if j ∈ i :: r then [] else fp j := by
      funext j
      by_cases h : j = i
      · simp [h]
      · simp [h]
    rw [e] at z
    exact z
/-- the slots are filled again -/
theorem Good.filled : ∀ {vs : List V} {ps : List Op} {os' : List O} {l' : List Addr} {ρ : Ev} {fp : Nat → List Addr}, Good K σ ρ F' H' fp → OpsAre K F σ vs ps → (∃ ds, ∃ os2 l2, os' = os2 ++ ds ∧ ROs K F' H' vs os2 l2 ∧ (∀ a ∈ l2, a ∈ l') ∧ l2.Nodup) → (∀ a ∈ l', F' a = none ∧ ∀ j, a ∉ fp j) →
    ∃ fp', Good K σ (upds ps os' ρ) F' H' fp' ∧ ∀ a, inL fp' a → a ∈ l' ∨ inL fp a
  | [], [], os', l', ρ, fp, g, .nil, _, _ => by
    have e : upds [] os' ρ = ρ := by cases os' <;> rfl
    rw [e]
    exact ⟨fp, g, fun a m => .inr m⟩
  | v :: vs, p :: ps, os', l', ρ, fp, g, .cons h t, ⟨ds, os2, l2, eo, r, sub, nd⟩, hl => by
    cases r with
    | @cons _ _ o os3 l3 m3 r1 r2 =>
      obtain ⟨n1, n2, n3⟩ := List.nodup_append.mp nd
      subst eo
      cases p with
      | val d => exact Good.filled (ps := ps) (os' := os3 ++ ds) g t ⟨ds, os3, m3, rfl, r2, fun a m => sub a (List.mem_append_right _ m), n2⟩ hl
      | pl i =>
        have h : σ[i]? = some (some v) := h
        have g2 := g.alter h r1 n1 fun a m => ⟨(hl a (sub a (List.mem_append_left _ m))).1, fun j _ => (hl a (sub a (List.mem_append_left _ m))).2 j⟩
        obtain ⟨fp', g3, in3⟩ := Good.filled (ps := ps) (os' := os3 ++ ds) (l' := m3) g2 t ⟨ds, os3, m3, rfl, r2, fun a m => m, n2⟩ fun a m => ⟨(hl a (sub a (List.mem_append_right _ m))).1, fun j mj => by
          have mj : a ∈ (if j = i then l3 else fp j) := mj
          by_cases z : j = i
          · rw [if_pos z] at mj; exact n3 a mj a m rfl
          · rw [if_neg z] at mj; exact (hl a (sub a (List.mem_append_right _ m))).2 j mj⟩
        refine ⟨fp', g3, fun a m => ?_⟩
        rcases in3 a m with m | m
        · exact .inl (sub a (List.mem_append_right _ m))
        · rcases if_in m with m | m
          · exact .inl (sub a (List.mem_append_left _ m))
          · exact .inr m
theorem ros_cut {dvs : List V} : ∀ {vs : List V} {os' : List O} {l' : List Addr}, ROs K F' H' (vs ++ dvs) os' l' → l'.Nodup → ∃ ds os2 l2, os' = os2 ++ ds ∧ ROs K F' H' vs os2 l2 ∧ (∀ a ∈ l2, a ∈ l') ∧ l2.Nodup
  | [], os', l', r, nd => ⟨os', [], [], rfl, .nil, fun _ m => by simp at m, List.nodup_nil⟩
  | v :: vs, _, _, .cons (l := l) (m := m) h t, nd => by
    obtain ⟨n1, n2, n3⟩ := List.nodup_append.mp nd
    obtain ⟨ds, os2, l2, e, r, sub, nd2⟩ := ros_cut t n2
    refine ⟨ds, _ :: os2, l ++ l2, by rw [e]; rfl, .cons h r, fun a m' => ?_, List.nodup_append.mpr ⟨n1, nd2, fun a ma b mb hab => n3 a ma b (sub b mb) hab⟩⟩
    rcases List.mem_append.mp m' with m' | m'
    · exact List.mem_append_left _ m'
    · exact List.mem_append_right _ (sub a m')
end
section
variable {X : Cx} {B : Hp} {x : Str} {p pos : Pos} {e : Expr} {es : List Expr} {ts : TPs} {C : Con} {dv : List D} {k : Nat}
theorem call_vals {dvs : List V} (hd : ∀ F, DqAll (kb X B) F dvs dv) {σ : L2.St} {ρ1 : Ev} {F H F1 H1 : Hp} {fp fp1 : Nat → List Addr} {Q : O → Ev → Prop} {E : XK} {vs : List V} {ps : List Op} (x1 : OpsAre (kb X B) F1 σ vs ps) (g1 : Good (kb X B) σ ρ1 F1 H1 fp1) (e1 : Ext F H (inL fp) F1 H1 (inL fp1))
    (q1 : match opsOf ρ1 ps with
      | some os => match apart (slots ps) with
        | true => C (os ++ dv.map .sh) fun r os' => Q r (upds ps os' (clear ρ1 (slots ps)))
        | false => False
      | none => False) : spOf X.K C (vs ++ dvs) H1 (QO (kb X B) σ F H (inL fp) Q) E := by
  split at q1
  · rename_i os eo
    split at q1
    · rename_i eap
      obtain ⟨l, r, nd, in1, in2⟩ := ops_ros g1 x1 eo (apart_nd eap)
      refine ⟨B, F1, _, l, _, g1.bs, g1.same, ros_app (hd F1) r, nd, fun a m => ?_, q1, ?_⟩
      · obtain ⟨i, _, mi⟩ := in1 a m
        exact g1.df i a mi
      · intro r' os' qq v H' F' lr l' ro ros nd' df' sa' ex'
        obtain ⟨n1, n2, n3⟩ := List.nodup_append.mp nd'
        have g2 := g1.cleared (slots ps)
        have old : ∀ a, inL (fun i => if i ∈ slots ps then [] else fp1 i) a → inL fp1 a ∧ a ∉ l := fun a ⟨i, m⟩ => by
          have m : a ∈ (if i ∈ slots ps then [] else fp1 i) := m
          by_cases z : i ∈ slots ps
          · rw [if_pos z] at m; simp at m
          · rw [if_neg z] at m
            refine ⟨⟨i, m⟩, fun ml => ?_⟩
            obtain ⟨j, hj, mj⟩ := in1 a ml
            exact g1.dj i j a (fun w => z (w ▸ hj)) m mj
        have g3 : Good (kb X B) σ (clear ρ1 (slots ps)) F' H' (fun i => if i ∈ slots ps then [] else fp1 i) := g2.step ex'.f sa' (fun a y m z => ex'.h a y (old a m).2 z) fun a m => by
          obtain ⟨m1, ml⟩ := old a m
          rcases none_or F' a with z | ⟨y, z⟩
          · exact z
          · rcases ex'.fn a y z with w | w | w
            · obtain ⟨i, mi⟩ := m1
              rw [g1.df i a mi] at w; cases w
            · exact absurd w ml
            · obtain ⟨y', z'⟩ := g1.there m1
              rw [w] at z'; cases z'
        have new : ∀ a, a ∈ lr ++ l' → ∀ j, a ∉ (fun i => if i ∈ slots ps then [] else fp1 i) j := fun a m j mj => by
          obtain ⟨m1, ml⟩ := old a ⟨j, mj⟩
          rcases ex'.l a m with w | w
          · exact ml w
          · obtain ⟨y', z'⟩ := g1.there m1
            rw [w] at z'; cases z'
        obtain ⟨fp', g4, in4⟩ := Good.filled (ps := ps) (os' := os') (l' := l') g3 x1 (ros_cut ros n2) fun a m => ⟨df' a (List.mem_append_right _ m), new a (List.mem_append_right _ m)⟩
        refine ⟨r', _, F', fp', lr, ro, n1, fun a m => ⟨df' a (List.mem_append_left _ m), fun j mj => ?_⟩, g4, ?_, qq⟩
        · rcases in4 a ⟨j, mj⟩ with z | ⟨i, z⟩
          · exact n3 a m a z rfl
          · exact new a (List.mem_append_left _ m) i z
        · refine e1.trans ?_
          have em := ex'.more (L2 := inL fp1) fun c m => let ⟨i, _, mi⟩ := in1 c m; ⟨i, mi⟩
          refine ⟨em.f, em.h, em.dom, fun a z => ?_, em.fn⟩
          rcases z with z | z
          · exact em.l a (List.mem_append_left _ z)
          · rcases in4 a z with z | z
            · exact em.l a (List.mem_append_right _ z)
            · exact .inl (old a z).1
    · exact q1.elim
  · exact q1.elim
theorem call_core {dvs : List V} (hd : ∀ F, DqAll (kb X B) F dvs dv) (ha : JS X B es ts) {σ : L2.St} {ρ : Ev} {F H : Hp} {fp : Nat → List Addr} {Q : O → Ev → Prop} {E : XK} (g : Good (kb X B) σ ρ F H fp) (q : oCall C dv ts ρ Q) : tCall (spOf X.K C) dvs E (wA X es) σ H (QO (kb X B) σ F H (inL fp) Q) :=
  wA_mono (ha.run σ ρ F H fp _ g q) fun vs H1 ⟨ps, ρ1, F1, fp1, x1, g1, e1, q1⟩ => call_vals hd x1 g1 e1 q1
/-- x(e, ..), x a def of the module -/
theorem jo_call (px : PX X) (c : Callee X.prog X.w X.K X.mg X.base k x dv C) (hr : Room k X.A) (hg : Gl X x) (ha : JS X B (e :: es) ts) (hdb : (x == ("__debug__" : Str)) = false := by decide)
    (he : starEach (e :: es) X.env = (false, eval e X.env) :: starEach es X.env := by rfl) (hpl : (backTo pos (starEach es X.env)).any (·.1) = false := by rfl) : JO X B (.Call (.Name x p) (e :: es) [] pos) (oCall C dv ts) := by
  obtain ⟨f, fd, ps, ds, dvs, G, hm, hk, hb, hv, hd⟩ := c
  exact ⟨fun σ ρ F H fp Q g q => wE_of (pe_callG G px hr hg hm hk hb hv pa_w hdb he hpl) (call_core (hd B) ha g q)⟩
theorem jo_call0 (px : PX X) (c : Callee X.prog X.w X.K X.mg X.base k x dv C) (hr : Room k X.A) (hg : Gl X x) (hdb : (x == ("__debug__" : Str)) = false := by decide) : JO X B (.Call (.Name x p) [] [] pos) (oCall C dv sNil) := by
  obtain ⟨f, fd, ps, ds, dvs, G, hm, hk, hb, hv, hd⟩ := c
  exact ⟨fun σ ρ F H fp Q g q => wE_of (pe_callG0 G px hr hg hm hk hb hv hdb) (call_vals (E := E0) (vs := []) (ps := []) (hd B) .nil g .refl q)⟩
end
end Pl
/-! The pure layer, part 8: names of the module, zip, enumerate, [::-1], dicts that are read. -/
namespace Pl
open PySem PySem.Spec L2

/-! ### names of the module, numbers below nought -/
def Glob (K : PySem.W.Frag) (mg : Str → Option Value) (x : Str) (d : D) : Prop := ∃ v u, mg x = some u ∧ RelV v u ∧ ∀ B F, Dq ⟨K, B⟩ F v d
/-- a tuple of texts that is written in the module -/
def GlobT (K : PySem.W.Frag) (mg : Str → Option Value) (x : Str) (ys : List Str) : Prop := ∃ (a : Addr) (oo : Obj), mg x = some (.ref a) ∧ K.lookup a = some oo ∧ oo.cls = .type "tuple" ∧ oo.dict = none ∧ ∀ F, SqT K F a (ys.map V.str)
section
variable {X : Cx} {B : Hp} {x : Str} {d : D} {pos p2 : Pos} {ys : List Str}
theorem je_gl (h : Glob X.K X.mg x d) (hg : Gl X x) (hd : (x == ("__debug__" : Str)) = false := by decide) : JE X B (.Name x pos) (eC d) := by
  obtain ⟨v, u, h1, h2, h3⟩ := h
  exact je_c (pe_glob hg h1 h2 hd) (h3 B)
theorem GlobT.glob {K : PySem.W.Frag} {mg : Str → Option Value} (h : GlobT K mg x ys) : Glob K mg x (.tuple (ys.map .str)) := by
  obtain ⟨a, oo, h1, h2, h3, h4, h5⟩ := h
  exact ⟨.ref a, .ref a, h1, rfl, fun B F => .tup (h5 F) (dp_strs ys)⟩
theorem je_neg {i : Int} {j : Nat} : JE X B (.UnaryOp .USub (.Constant (.int i) j p2) pos) (eC (.int (-i))) :=
  ⟨fun σ ρ F H fp Q g q => wE_of (pe_un un_neg pe_int) ⟨i, rfl, .int (-i), ρ, F, fp, .int _, g, .refl, q⟩⟩
theorem jo_tixG {e : Expr} {tb : TPx} {apos cpos : Pos} (h : GlobT X.K X.mg x ys) (hg : Gl X x) (hb : JX X B e tb) (hd : (x == ("__debug__" : Str)) = false := by decide)
    (hbase : attributeBase (.Name x p2) "index" X.env (eval (.Name x p2) X.env) = eval (.Name x p2) X.env := by rfl)
    (hfew : ((backTo cpos (starEach [e] X.env)).all (fun x => !x.1) && (backToKw cpos (keywordEach [] X.env)).all (fun x => x.1.isSome)
      && decide (([e] : List Expr).length + ([] : List Keyword).length + (if ([] : List Keyword).isEmpty then 0 else 1) < 30)) = true := by rfl)
    (hline : (apos.endLine == cpos.line) = true := by rfl) (hst : starEach [e] X.env = (false, eval e X.env) :: starEach [] X.env := by rfl) (hplain : (backTo cpos (starEach [] X.env)).any (·.1) = false := by rfl) :
    JO X B (.Call (.Attribute (.Name x p2) "index" apos) [e] [] cpos) (oTIx (eC (.tuple (ys.map .str))) tb) := by
  obtain ⟨a, oo, h1, h2, h3, h4, h5⟩ := h
  exact jo_tix (pe_glob hg h1 rfl hd) h2 h3 h4 h5 hb hbase hfew hline hst hplain
end

/-! ### zip, enumerate -/
def zipD (xs ys : List D) : List D := List.zipWith (fun a b => .tuple [a, b]) xs ys
def enumD (n : Nat) : List D → List D
  | [] => []
  | d :: ds => .tuple [.int (n : Nat), d] :: enumD (n + 1) ds
def iZp (t u : TPe) : TPi := fun ρ Q => t ρ fun d ρ1 => u ρ1 fun e ρ2 => match vw d, vw e with
  | .list xs, .list ys => Q (zipD xs ys) ρ2
  | .tuple xs, .tuple ys => Q (zipD xs ys) ρ2
  | _, _ => False
def iEn (t : TPe) : TPi := fun ρ Q => t ρ fun d ρ1 => match vw d with
  | .list xs => Q (enumD 0 xs) ρ1
  | _ => False
theorem enumD_get : ∀ (ds : List D) (n i : Nat), (enumD n ds)[i]? = ds[i]?.map fun d => .tuple [.int ((n + i : Nat) : Int), d]
  | [], n, i => by unfold enumD; simp
  | d :: ds, n, 0 => by unfold enumD; simp
  | d :: ds, n, i + 1 => by
    unfold enumD
    rw [List.getElem?_cons_succ, List.getElem?_cons_succ, enumD_get ds (n + 1) i, show n + 1 + i = n + (i + 1) by omega]
theorem enumD_len : ∀ (ds : List D) (n : Nat), (enumD n ds).length = ds.length
  | [], n => rfl
  | d :: ds, n => by unfold enumD; rw [List.length_cons, List.length_cons, enumD_len]
section
variable {K : Kb} {F : Hp}
/-- a pair is laid -/
theorem nx_pair {F2 H2 : Hp} {T : Addr} {x y : V} {d e : D} (s : Same F2 H2) (n : H2 T = none) (hx : Dq K F2 x d) (hy : Dq K F2 y e) : ∃ F3, Dq K F3 (.ref T) (.tuple [d, e]) ∧ Nx F2 H2 F3 (upd H2 T (.tup [x, y])) [] := by
  have nF : F2 T = none := s.free n
  refine ⟨upd F2 T (.tup [x, y]), .tup (.inl (.inl upd_same)) (.cons (hx.mono (same_upd nF)) (.one (hy.mono (same_upd nF)))), same_upd nF, same_upd n, fun b w z => ?_, fun b w z => ?_, fun a m => by simp at m, List.nodup_nil⟩
  · by_cases q : b = T
    · subst q; rw [upd_same] at z; cases z; exact upd_same
    · rw [upd_ne q] at z; rw [upd_ne q]; exact s b w z
  · by_cases q : b = T
    · subst q; exact .inr n
    · rw [upd_ne q] at z; exact .inl z
theorem feeds_zip {a b : Addr} {vs ws : List V} {ds es : List D} (h : SqL K.K F a vs) (h2 : SqL K.K F b ws) (hd : DqAll K F vs ds) (he : DqAll K F ws es) : Feeds K (Itz K.K a b) (zipD ds es) F where
  stop := fun F2 H2 i e s l => by
    unfold zipD at l
    rw [List.length_zipWith] at l
    refine ⟨vs, ws, sqL_at h e s, sqL_at h2 e s, ?_⟩
    rw [hd.len, he.len]; omega
  go := fun F2 H2 i d e s q => by
    unfold zipD at q
    rw [List.getElem?_zipWith] at q
    split at q
    · rename_i d1 e1 q1 q2
      obtain ⟨v, hv, _⟩ := hd.get q1
      obtain ⟨w, hw, _⟩ := he.get q2
      exact ⟨vs, ws, v, w, sqL_at h e s, sqL_at h2 e s, hv, hw⟩
    · cases q
  yld := fun F2 H2 i d x H3 e s q y => by
    unfold zipD at q
    rw [List.getElem?_zipWith] at q
    split at q
    · rename_i d1 e1 q1 q2
      cases q
      obtain ⟨v, hv, dv⟩ := hd.get q1
      obtain ⟨w, hw, dw⟩ := he.get q2
      obtain ⟨T, x1, y1, rfl, nT, rfl, f1, f2⟩ := y
      have r1 := f1 vs (sqL_at h e s)
      have r2 := f2 ws (sqL_at h2 e s)
      rw [hv] at r1; cases r1
      rw [hw] at r2; cases r2
      exact nx_pair s nT (dv.mono e) (dw.mono e)
    · cases q
theorem feeds_zipT {a b : Addr} {vs ws : List V} {ds es : List D} (h : SqT K.K F a vs) (h2 : SqT K.K F b ws) (hd : DqAll K F vs ds) (he : DqAll K F ws es) : Feeds K (RZ.ItzT K.K a b) (zipD ds es) F where
  stop := fun F2 H2 i e s l => by
    unfold zipD at l
    rw [List.length_zipWith] at l
    refine ⟨vs, ws, sqT_at h e s, sqT_at h2 e s, ?_⟩
    rw [hd.len, he.len]; omega
  go := fun F2 H2 i d e s q => by
    unfold zipD at q
    rw [List.getElem?_zipWith] at q
    split at q
    · rename_i d1 e1 q1 q2
      obtain ⟨v, hv, _⟩ := hd.get q1
      obtain ⟨w, hw, _⟩ := he.get q2
      exact ⟨vs, ws, v, w, sqT_at h e s, sqT_at h2 e s, hv, hw⟩
    · cases q
  yld := fun F2 H2 i d x H3 e s q y => by
    unfold zipD at q
    rw [List.getElem?_zipWith] at q
    split at q
    · rename_i d1 e1 q1 q2
      cases q
      obtain ⟨v, hv, dv⟩ := hd.get q1
      obtain ⟨w, hw, dw⟩ := he.get q2
      obtain ⟨T, x1, y1, rfl, nT, rfl, f1, f2⟩ := y
      have r1 := f1 vs (sqT_at h e s)
      have r2 := f2 ws (sqT_at h2 e s)
      rw [hv] at r1; cases r1
      rw [hw] at r2; cases r2
      exact nx_pair s nT (dv.mono e) (dw.mono e)
    · cases q
theorem feeds_enum {a : Addr} {vs : List V} {ds : List D} (h : SqL K.K F a vs) (hd : DqAll K F vs ds) : Feeds K (Ite K.K a) (enumD 0 ds) F where
  stop := fun F2 H2 i e s l => ⟨vs, sqL_at h e s, by rw [hd.len]; rw [enumD_len] at l; exact l⟩
  go := fun F2 H2 i d e s q => by
    rw [enumD_get] at q
    cases z : ds[i]? with
    | none => rw [z] at q; cases q
    | some d1 =>
      obtain ⟨v, hv, _⟩ := hd.get z
      exact ⟨vs, v, sqL_at h e s, hv⟩
  yld := fun F2 H2 i d x H3 e s q y => by
    rw [enumD_get] at q
    cases z : ds[i]? with
    | none => rw [z] at q; cases q
    | some d1 =>
      rw [z] at q
      cases q
      obtain ⟨v, hv, dv⟩ := hd.get z
      obtain ⟨T, x1, rfl, nT, rfl, f1⟩ := y
      have r1 := f1 vs (sqL_at h e s)
      rw [hv] at r1; cases r1
      rw [Nat.zero_add]
      exact nx_pair s nT (.int _) (dv.mono e)
end
section
variable {X : Cx} {B : Hp} {elts : List Expr} {kk : Nat} {e e2 : Expr} {t u : TPe} {p pos tpos : Pos}
theorem ji_zip (hg : Gl X "zip") (hm : X.mg "zip" = none) (h : JE X B e t) (h2 : JE X B e2 u) (hs : starEach [e, e2] X.env = (false, eval e X.env) :: starEach [e2] X.env := by rfl) (hpl : (backTo pos (starEach [e2] X.env)).any (·.1) = false := by rfl)
    (hs4 : starEach [e2] X.env = (false, eval e2 X.env) :: starEach [] X.env := by rfl) : JI X B (.Tuple elts kk tpos) (.Call (.Name "zip" p) [e, e2] [] pos) (iZp t u) := by
  refine ⟨fun σ ρ F H fp Q g q => wI_of (RZ.pi_zipA hg hm (pa_cons pe_w (pa_cons pe_w pa_nil hs4) hs) hs hpl) (wE_mono (h.run σ ρ F H fp _ g q) fun v H1 ⟨d, ρ1, F1, fp1, x1, g1, e1, q1⟩ => wE_mono (h2.run σ ρ1 F1 H1 fp1 _ g1 q1) fun v2 H2 ⟨d2, ρ2, F2, fp2, x2, g2, e2, q2⟩ => ?_)⟩
  dsimp only at q2
  have x1' := (x1.mono e2.f).vw
  have x2 := x2.vw
  revert x1' x2 q2
  generalize vw d = d'
  generalize vw d2 = d2'
  intro q2 x1' x2
  split at q2
  · cases x1' with
    | lst a1 a2 =>
      cases x2 with
      | lst b1 b2 => exact ⟨_, _, _, _, rfl, .inl ⟨g2.same.seq a1, g2.same.seq b1, _, ρ2, F2, fp2, feeds_zip a1 b1 a2 b2, g2, e1.trans e2, q2⟩⟩
  · cases x1' with
    | tup a1 a2 =>
      cases x2 with
      | tup b1 b2 => exact ⟨_, _, _, _, rfl, .inr ⟨same_sqT g2.same a1, same_sqT g2.same b1, _, ρ2, F2, fp2, feeds_zipT a1 b1 a2 b2, g2, e1.trans e2, q2⟩⟩
  · exact q2.elim
theorem ji_enum (hg : Gl X "enumerate") (hm : X.mg "enumerate" = none) (h : JE X B e t) (hs : starEach [e] X.env = [(false, eval e X.env)] := by rfl) (hs4 : starEach [e] X.env = (false, eval e X.env) :: starEach [] X.env := by rfl) :
    JI X B (.Tuple elts kk tpos) (.Call (.Name "enumerate" p) [e] [] pos) (iEn t) := by
  refine ⟨fun σ ρ F H fp Q g q => wI_of (pi_enum hg hm (pa_cons pe_w pa_nil hs4) hs) (wE_mono (h.run σ ρ F H fp _ g q) fun v H1 ⟨d, ρ1, F1, fp1, x1, g1, e1, q1⟩ => ?_)⟩
  dsimp only at q1
  have x1 := x1.vw
  revert x1 q1
  generalize vw d = d'
  intro q1 x1
  split at q1
  · cases x1 with
    | lst a1 a2 => exact ⟨_, _, rfl, g1.same.seq a1, _, ρ1, F1, fp1, feeds_enum a1 a2, g1, e1, q1⟩
  · exact q1.elim
end

/-! ### xs[::-1] -/
def pRev : P1 := fun d Q => match d with
  | .list xs => Q (.fl xs.reverse)
  | _ => False
theorem DqAll.rev {K : Kb} {F : Hp} : ∀ {vs : List V} {ds : List D}, DqAll K F vs ds → DqAll K F vs.reverse ds.reverse
  | [], [], .nil => .nil
  | v :: vs, d :: ds, .cons h t => by
    rw [List.reverse_cons, List.reverse_cons]
    exact (DqAll.rev t).append (.one h)
section
variable {X : Cx} {B : Hp} {e : Expr} {ta : TPx} {k : Nat} {p1 p2 p3 pos : Pos}
theorem jo_rev (ha : JX X B e ta) : JO X B (.Subscript e (.Slice none none (some (.UnaryOp .USub (.Constant (.int 1) k p1) p2)) p3) pos) (o1 pRev ta) := by
  refine ⟨fun σ ρ F H fp Q g q => wE_of (pe_revL pe_w) (wE_mono (ha.run σ ρ F H fp _ g q) fun v H1 ⟨x, ρ1, F1, fp1, x1, g1, e1, q1⟩ => ?_)⟩
  dsimp only at q1
  cases hx : res ρ1 x with
  | none => rw [hx] at q1; exact q1.elim
  | some d =>
    rw [hx] at q1
    dsimp only at q1
    unfold pRev at q1
    split at q1
    · obtain ⟨a, vs, rfl, h1, h2⟩ := (res_q g1 x1 hx).list g1.same
      exact ⟨a, vs, rfl, h1, fun p n => (g1.fin (fin_list g1.same n (DqAll.rev h2) q1)).ext e1⟩
    · exact q1.elim
end

/-! ### dicts -/
def keyD : D → Option Key
  | .int i => some (.inl i)
  | .str z => some (.inr z)
  | _ => none
def assoc : List Key → List D → Key → Option D
  | k :: ks, d :: ds, x => if k = x then some d else assoc ks ds x
  | _, _, _ => none
/-- keys and values -/
def dkv : Option (Option O) → Option (List Key × List D)
  | some (some (.fd ks ds)) => some (ks, ds)
  | some (some (.fr ks ds)) => some (ks, ds)
  | _ => none
theorem keyV {K : Kb} {F : Hp} {v : V} {d : D} {k : Key} (h : Dq K F v d) (e : keyD d = some k) : v = kV k := by
  unfold keyD at e
  split at e
  · cases e; cases h; rfl
  · cases e; cases h; rfl
  · cases e
theorem assoc_val {K : Kb} {F : Hp} {k : Key} : ∀ {kvs : List (Key × V)} {ds : List D}, DqAll K F (kvs.map (·.2)) ds → (valV kvs k = none ∧ assoc (kvs.map (·.1)) ds k = none) ∨ ∃ v d, valV kvs k = some v ∧ assoc (kvs.map (·.1)) ds k = some d ∧ Dq K F v d
  | [], [], _ => .inl ⟨rfl, rfl⟩
  | p :: kvs, d :: ds, h => by
    have h : DqAll K F (p.2 :: kvs.map (·.2)) (d :: ds) := h
    cases h with
    | cons h1 h2 =>
      show (valV (p :: kvs) k = none ∧ (if p.1 = k then some d else assoc (kvs.map (·.1)) ds k) = none) ∨ ∃ v d', valV (p :: kvs) k = some v ∧ (if p.1 = k then some d else assoc (kvs.map (·.1)) ds k) = some d' ∧ Dq K F v d'
      by_cases e : p.1 = k
      · rw [valV_pos e, if_pos e]; exact .inr ⟨_, _, rfl, rfl, h1⟩
      · rw [valV_neg e, if_neg e]; exact assoc_val h2
section
variable {K : Kb} {σ : L2.St} {ρ : Ev} {F H : Hp} {fp : Nat → List Addr}
theorem Good.dkv (g : Good K σ ρ F H fp) {i : Nat} {ks : List Key} {ds : List D} (e : dkv ρ[i]? = some (ks, ds)) : ∃ a kvs, σ[i]? = some (some (.ref a)) ∧ Rd H a (.dK kvs) ∧ kvs.map (·.1) = ks ∧ DqAll K F (kvs.map (·.2)) ds := by
  cases q : ρ[i]? with
  | none => rw [q] at e; cases e
  | some w =>
    cases w with
    | none => rw [q] at e; cases e
    | some o =>
      obtain ⟨v, hv, r⟩ := g.loc i o q
      rw [q] at e
      generalize fp i = l at r
      cases o with
      | fd ks' ds' => cases e; cases r with | fd h1 h2 h3 => exact ⟨_, _, hv, .inl h1, h2, h3⟩
      | fr ks' ds' => cases e; cases r with | fr h1 h2 h3 => exact ⟨_, _, hv, .inr ⟨_, g.same _ _ h1⟩, h2, h3⟩
      | _ => cases e
end
/-- x[e], x a name's dict -/
def eDg (i : Nat) (t : TPe) : TPe := fun ρ Q => match dkv ρ[i]? with
  | some _ => t ρ fun d ρ1 => match keyD d, dkv ρ1[i]? with
    | some k, some (ks, ds) => match assoc ks ds k with
      | some y => Q y ρ1
      | none => False
    | _, _ => False
  | none => False
section
variable {X : Cx} {B : Hp} {x : Str} {e : Expr} {i : Nat} {t : TPe} {npos pos : Pos}
theorem je_dg (px : PX X) (hp : PE X (.Name x npos) (tVar i)) (h : JE X B e t) (hs : NoSl e := by intro _ _; rfl) : JE X B (.Subscript (.Name x npos) e pos) (eDg i t) := by
  refine ⟨fun σ ρ F H fp Q g q => wE_of (pe_dget (by have := px.hu; omega) hp pe_w hs) ?_⟩
  unfold eDg at q
  split at q
  · rename_i w e0
    obtain ⟨ks0, ds0⟩ := w
    obtain ⟨a, kvs, hv, hr, hk, hd⟩ := g.dkv e0
    refine ⟨.ref a, hv, wE_mono (h.run σ ρ F H fp _ g q) fun w H1 ⟨d, ρ1, F1, fp1, x1, g1, e1, q1⟩ => ?_⟩
    dsimp only at q1
    split at q1
    · rename_i k ks ds ek ed
      obtain ⟨a1, kvs1, hv1, hr1, hk1, hd1⟩ := g1.dkv ed
      rw [hv] at hv1; cases hv1
      split at q1
      · rename_i y ey
        rcases assoc_val (k := k) hd1 with ⟨z1, z2⟩ | ⟨v, d', z1, z2, z3⟩
        · rw [hk1, ey] at z2; cases z2
        · rw [hk1, ey] at z2
          cases z2
          exact ⟨a, v, rfl, .inl ⟨kvs1, k, hr1, keyV x1 ek, z1.symm⟩, y, ρ1, F1, fp1, z3, g1, e1, q1⟩
      · exact q1.elim
    · exact q1.elim
  · exact q.elim
end
/-- a dict that is written out, of constants -/
def oDc (ks : List Key) (ds : List D) : TPo := fun ρ Q => Q (.fd ks ds) ρ
theorem pairs_c : ∀ (kvs : List (Key × V)) (σ : L2.St) (H : Hp) (Q : List (V × V) → Hp → Prop), Q (kvs.map fun kv => (kV kv.1, kv.2)) H → tPairs (kvs.map fun kv => (tC (kV kv.1), tC kv.2)) σ H Q
  | [], _, _, _, q => q
  | p :: kvs, σ, H, Q, q => pairs_c kvs σ H (fun ps H3 => Q ((kV p.1, p.2) :: ps) H3) q
section
variable {X : Cx} {B : Hp} {pos : Pos} {keys : List (Option Expr)} {values : List Expr}
theorem jo_dispC {kvs : List (Key × V)} {ds : List D} (hp : PPs X pos keys values (kvs.map fun kv => (tC (kV kv.1), tC kv.2))) (hm : mergeK [] kvs = kvs) (hd : ∀ K F, DqAll K F (kvs.map (·.2)) ds) (hl : kvs.length ≤ 15)
    (h0 : keys ≠ []) (hall : keys.all (·.isSome) = true := by rfl) (hll : keys.length = values.length := by rfl) (h15 : keys.length ≤ 15 := by decide) : JO X B (.Dict keys values pos) (oDc (kvs.map (·.1)) ds) := by
  refine ⟨fun σ ρ F H fp Q g q => wE_of (pe_disp hp hall hll h0 h15) fun p n => pairs_c kvs σ _ _ ⟨upd_same, kvs, rfl, hl, ?_⟩⟩
  have nF := g.same.free n
  rw [hm]
  have e : upd (upd H p (.dK [])) p (.dK kvs) = upd H p (.dK kvs) := by
    funext b
    by_cases z : b = p
    · subst z; rw [upd_same, upd_same]
    · rw [upd_ne z, upd_ne z, upd_ne z]
  rw [e]
  have nx : Nx F H F (upd H p (.dK kvs)) [p] := ⟨Same.refl F, same_upd n, g.same.trans (same_upd n), fun _ _ z => .inl z, fun a m => by simp at m; subst m; exact ⟨n, nF⟩, by simp⟩
  exact ⟨.fd _ ds, ρ, F, fp, [p], .fd upd_same rfl (hd _ F), by simp, g.nxOut nx, g.nx nx, g.nxExt nx, q⟩
end
end Pl
/-! The pure layer, part 9: short words for the terms that the printer writes. -/
namespace Pl
open PySem PySem.Spec L2

section
variable {X : Cx} {B : Hp} {a b c e : Expr} {ta tb tc : TPx} {p pos : Pos} {x : Str}
/-! ### operators -/
theorem jo_eq (px : PX X) (ha : JX X B a ta) (hb : JX X B b tb) : JO X B (.Compare a [.Eq] [b] pos) (o2 pEq ta tb) := jo_2 (fun ha hb => pe_cmpR (op_eqP px) ha hb (nomark _)) s_eq ha hb
theorem jo_ne (px : PX X) (ha : JX X B a ta) (hb : JX X B b tb) : JO X B (.Compare a [.NotEq] [b] pos) (o2 pNe ta tb) := jo_2 (fun ha hb => pe_cmpR (op_neP px) ha hb (nomark _)) s_ne ha hb
theorem jo_lt (ha : JX X B a ta) (hb : JX X B b tb) : JO X B (.Compare a [.Lt] [b] pos) (o2 pLt ta tb) := jo_2 (fun ha hb => pe_cmpR op_lt2 ha hb (nomark _)) s_lt ha hb
theorem jo_le (ha : JX X B a ta) (hb : JX X B b tb) : JO X B (.Compare a [.LtE] [b] pos) (o2 pLe ta tb) := jo_2 (fun ha hb => pe_cmpR op_le2 ha hb (nomark _)) s_le ha hb
theorem jo_gt (ha : JX X B a ta) (hb : JX X B b tb) : JO X B (.Compare a [.Gt] [b] pos) (o2 pGt ta tb) := jo_2 (fun ha hb => pe_cmpR op_gt ha hb (nomark _)) s_gt ha hb
theorem jo_ge (ha : JX X B a ta) (hb : JX X B b tb) : JO X B (.Compare a [.GtE] [b] pos) (o2 pGe ta tb) := jo_2 (fun ha hb => pe_cmpR op_ge ha hb (nomark _)) s_ge ha hb
theorem jo_in (px : PX X) (ha : JX X B a ta) (hb : JX X B b tb) (hm : behindInMarks .In b = false := by with_unfolding_all rfl) : JO X B (.Compare a [.In] [b] pos) (o2 (pIn false) ta tb) := jo_2 (fun ha hb => pe_cmpR (op_in2 px) ha hb hm) s_in ha hb
theorem jo_nin (px : PX X) (ha : JX X B a ta) (hb : JX X B b tb) (hm : behindInMarks .NotIn b = false := by with_unfolding_all rfl) : JO X B (.Compare a [.NotIn] [b] pos) (o2 (pIn true) ta tb) := jo_2 (fun ha hb => pe_cmpR (op_notIn2 px) ha hb hm) s_in ha hb
theorem jo_isn (ha : JX X B a ta) (hb : JX X B b tb) : JO X B (.Compare a [.Is] [b] pos) (o2 pIsN ta tb) := jo_2 (fun ha hb => pe_cmpR op_isN ha hb (nomark _)) s_isN ha hb
theorem jo_notn (ha : JX X B a ta) (hb : JX X B b tb) : JO X B (.Compare a [.IsNot] [b] pos) (o2 pNotN ta tb) := jo_2 (fun ha hb => pe_cmpR op_notN ha hb (nomark _)) s_notN ha hb
theorem jt_eq (px : PX X) (ha : JX X B a ta) (hb : JX X B b tb) : JT X B (.Compare a [.Eq] [b] pos) (bO (o2 pEq ta tb)) := jt_2 (fun ha hb => pt_cmpR (op_eqP px) ha hb (nomark _)) s_eq ha hb
theorem jt_ne (px : PX X) (ha : JX X B a ta) (hb : JX X B b tb) : JT X B (.Compare a [.NotEq] [b] pos) (bO (o2 pNe ta tb)) := jt_2 (fun ha hb => pt_cmpR (op_neP px) ha hb (nomark _)) s_ne ha hb
theorem jt_lt (ha : JX X B a ta) (hb : JX X B b tb) : JT X B (.Compare a [.Lt] [b] pos) (bO (o2 pLt ta tb)) := jt_2 (fun ha hb => pt_cmpR op_lt2 ha hb (nomark _)) s_lt ha hb
theorem jt_le (ha : JX X B a ta) (hb : JX X B b tb) : JT X B (.Compare a [.LtE] [b] pos) (bO (o2 pLe ta tb)) := jt_2 (fun ha hb => pt_cmpR op_le2 ha hb (nomark _)) s_le ha hb
theorem jt_gt (ha : JX X B a ta) (hb : JX X B b tb) : JT X B (.Compare a [.Gt] [b] pos) (bO (o2 pGt ta tb)) := jt_2 (fun ha hb => pt_cmpR op_gt ha hb (nomark _)) s_gt ha hb
theorem jt_ge (ha : JX X B a ta) (hb : JX X B b tb) : JT X B (.Compare a [.GtE] [b] pos) (bO (o2 pGe ta tb)) := jt_2 (fun ha hb => pt_cmpR op_ge ha hb (nomark _)) s_ge ha hb
theorem jt_in (px : PX X) (ha : JX X B a ta) (hb : JX X B b tb) (hm : behindInMarks .In b = false := by with_unfolding_all rfl) : JT X B (.Compare a [.In] [b] pos) (bO (o2 (pIn false) ta tb)) := jt_2 (fun ha hb => pt_cmpR (op_in2 px) ha hb hm) s_in ha hb
theorem jt_nin (px : PX X) (ha : JX X B a ta) (hb : JX X B b tb) (hm : behindInMarks .NotIn b = false := by with_unfolding_all rfl) : JT X B (.Compare a [.NotIn] [b] pos) (bO (o2 (pIn true) ta tb)) := jt_2 (fun ha hb => pt_cmpR (op_notIn2 px) ha hb hm) s_in ha hb
theorem jt_isn (ha : JX X B a ta) (hb : JX X B b tb) : JT X B (.Compare a [.Is] [b] pos) (bO (o2 pIsN ta tb)) := jt_2 (fun ha hb => pt_cmpR op_isN ha hb (nomark _)) s_isN ha hb
theorem jt_notn (ha : JX X B a ta) (hb : JX X B b tb) : JT X B (.Compare a [.IsNot] [b] pos) (bO (o2 pNotN ta tb)) := jt_2 (fun ha hb => pt_cmpR op_notN ha hb (nomark _)) s_notN ha hb
/-- the chains that the texts have: < of texts, <= of both -/
theorem jo_lele (ha : JX X B a ta) (hb : JX X B b tb) (hc : JX X B c tc) (hm : lastMarks [.LtE, .LtE] [b, c] = false := by with_unfolding_all rfl) : JO X B (.Compare a [.LtE, .LtE] [b, c] pos) (oCh pLe pLe ta tb tc) := jo_ch op_le2 op_le2 s_le s_le ha hb hc hm
theorem jt_lele (ha : JX X B a ta) (hb : JX X B b tb) (hc : JX X B c tc) (hm : lastMarks [.LtE, .LtE] [b, c] = false := by with_unfolding_all rfl) : JT X B (.Compare a [.LtE, .LtE] [b, c] pos) (bO (oCh pLe pLe ta tb tc)) := jt_ch op_le2 op_le2 s_le s_le ha hb hc hm
theorem jt_ltle (ha : JX X B a ta) (hb : JX X B b tb) (hc : JX X B c tc) (hm : lastMarks [.Lt, .LtE] [b, c] = false := by with_unfolding_all rfl) : JT X B (.Compare a [.Lt, .LtE] [b, c] pos) (bO (oCh pLt pLe ta tb tc)) := jt_ch op_lt2 op_le2 s_lt s_le ha hb hc hm
theorem jt_ltlt (ha : JX X B a ta) (hb : JX X B b tb) (hc : JX X B c tc) (hm : lastMarks [.Lt, .Lt] [b, c] = false := by with_unfolding_all rfl) : JT X B (.Compare a [.Lt, .Lt] [b, c] pos) (bO (oCh pLt pLt ta tb tc)) := jt_ch op_lt2 op_lt2 s_lt s_lt ha hb hc hm
theorem jt_lelt (ha : JX X B a ta) (hb : JX X B b tb) (hc : JX X B c tc) (hm : lastMarks [.LtE, .Lt] [b, c] = false := by with_unfolding_all rfl) : JT X B (.Compare a [.LtE, .Lt] [b, c] pos) (bO (oCh pLe pLt ta tb tc)) := jt_ch op_le2 op_lt2 s_le s_lt ha hb hc hm
theorem jo_lelt (ha : JX X B a ta) (hb : JX X B b tb) (hc : JX X B c tc) (hm : lastMarks [.LtE, .Lt] [b, c] = false := by with_unfolding_all rfl) : JO X B (.Compare a [.LtE, .Lt] [b, c] pos) (oCh pLe pLt ta tb tc) := jo_ch op_le2 op_lt2 s_le s_lt ha hb hc hm

def pSub : P2 := pI0 fun i j => .int (i - j)
def pMul : P2 := pII CMul fun i j => .int (i * j)
def pMod : P2 := pII (fun _ j => 0 < j) fun i j => .int (i % j)
def pDiv : P2 := pII CDivW fun i j => .int (i / j)
def pPow : P2 := pII CPow fun i j => .int (i ^ j.toNat)
theorem jo_add (ha : JX X B a ta) (hb : JX X B b tb) : JO X B (.BinOp a .Add b pos) (o2 pAdd ta tb) := jo_2 (fun ha hb => pe_op op_add4 ha hb) s_add ha hb
theorem jo_sub (ha : JX X B a ta) (hb : JX X B b tb) : JO X B (.BinOp a .Sub b pos) (o2 pSub ta tb) := jo_2 (fun ha hb => pe_op op_sub ha hb) s_int0 ha hb
theorem jo_mul (ha : JX X B a ta) (hb : JX X B b tb) : JO X B (.BinOp a .Mult b pos) (o2 pMul ta tb) := jo_2 (fun ha hb => pe_op op_mul ha hb) s_int ha hb
theorem jo_mod (ha : JX X B a ta) (hb : JX X B b tb) : JO X B (.BinOp a .Mod b pos) (o2 pMod ta tb) := jo_2 (fun ha hb => pe_op op_mod ha hb) s_int ha hb
theorem jo_div (ha : JX X B a ta) (hb : JX X B b tb) : JO X B (.BinOp a .FloorDiv b pos) (o2 pDiv ta tb) := jo_2 (fun ha hb => pe_op op_fdivW ha hb) s_int ha hb
theorem jo_pow (ha : JX X B a ta) (hb : JX X B b tb) : JO X B (.BinOp a .Pow b pos) (o2 pPow ta tb) := jo_2 (fun ha hb => pe_op op_pow ha hb) s_int ha hb
theorem jo_ix (ha : JX X B a ta) (hb : JX X B b tb) (hs : PlainIx b := by intro _ _; rfl) : JO X B (.Subscript a b pos) (o2 pIx ta tb) := jo_2 (fun ha hb => pe_ix ix_seq ha hb hs) s_ix ha hb

/-! ### built-ins -/
def s1 (t : TPx) : TPs := sCons t sNil
theorem js_1 (h : JX X B e ta) (hs : starEach [e] X.env = (false, eval e X.env) :: starEach [] X.env := by rfl) : JS X B [e] (s1 ta) := js_cons h js_nil hs
variable (he : starEach [e] X.env = (false, eval e X.env) :: starEach [] X.env := by rfl) (hpl : (backTo pos (starEach [] X.env)).any (·.1) = false := by rfl)
theorem jo_len (hg : Gl X "len") (hm : X.mg "len" = none) (h : JX X B e ta) (he : starEach [e] X.env = (false, eval e X.env) :: starEach [] X.env := by rfl) (hpl : (backTo pos (starEach [] X.env)).any (·.1) = false := by rfl) :
    JO X B (.Call (.Name "len" p) [e] [] pos) (oN pLen (s1 ta)) := jo_N (fun h => pe_callB call_len2 hg hm PySem.boot_len h (by decide) (by decide) he hpl) s_len (js_1 h he)
theorem jo_list (hg : Gl X "list") (hm : X.mg "list" = none) (h : JX X B e ta) (he : starEach [e] X.env = (false, eval e X.env) :: starEach [] X.env := by rfl) (hpl : (backTo pos (starEach [] X.env)).any (·.1) = false := by rfl) :
    JO X B (.Call (.Name "list" p) [e] [] pos) (oN pList (s1 ta)) := jo_N (fun h => pe_callTy call_list_of hg hm PyProof.Rows.boot_list h (by decide) (by decide) he hpl) s_list (js_1 h he)
theorem jo_sorted (px : PX X) (hg : Gl X "sorted") (hm : X.mg "sorted" = none) (h : JX X B e ta) (he : starEach [e] X.env = (false, eval e X.env) :: starEach [] X.env := by rfl) (hpl : (backTo pos (starEach [] X.env)).any (·.1) = false := by rfl) :
    JO X B (.Call (.Name "sorted" p) [e] [] pos) (oN pSort (s1 ta)) := jo_N (fun h => pe_callB (call_sortD B px) hg hm PyProof.Rows.boot_sorted h (by decide) (by decide) he hpl) s_sort (js_1 h he)
theorem jo_all (px : PX X) (hg : Gl X "all") (hm : X.mg "all" = none) (h : JX X B e ta) (he : starEach [e] X.env = (false, eval e X.env) :: starEach [] X.env := by rfl) (hpl : (backTo pos (starEach [] X.env)).any (·.1) = false := by rfl) :
    JO X B (.Call (.Name "all" p) [e] [] pos) (oN pAll (s1 ta)) := jo_N (fun h => pe_callB (cr_all px.calm) hg hm PyProof.Rows.boot_all h (by decide) (by decide) he hpl) s_all (js_1 h he)
theorem jo_any (px : PX X) (hg : Gl X "any") (hm : X.mg "any" = none) (h : JX X B e ta) (he : starEach [e] X.env = (false, eval e X.env) :: starEach [] X.env := by rfl) (hpl : (backTo pos (starEach [] X.env)).any (·.1) = false := by rfl) :
    JO X B (.Call (.Name "any" p) [e] [] pos) (oN pAny (s1 ta)) := jo_N (fun h => pe_callB (cr_any px.calm) hg hm PyProof.Rows.boot_any h (by decide) (by decide) he hpl) s_any (js_1 h he)
def b_str : bootBuiltins "str" = some (.type "str") := PyProof.Rows.boot_str
def b_list : bootBuiltins "list" = some (.type "list") := PyProof.Rows.boot_list
def b_tuple : bootBuiltins "tuple" = some (.type "tuple") := PyProof.Rows.boot_tuple
def b_int : bootBuiltins "int" = some (.type "int") := PyProof.Rows.boot_int
theorem b_bool : bootBuiltins "bool" = some (.type "bool") := by decide +kernel
/-! ### texts -/
theorem jo_split {ta : TPe} {apos : Pos} (ha : JE X B a ta) (hb : JX X B e tb) (hs : starEach [e] X.env = [(false, eval e X.env)] := by rfl) (hbase : attributeBase a "split" X.env (eval a X.env) = eval a X.env := by rfl) (hline : (apos.endLine == pos.line) = true := by rfl) :
    JO X B (.Call (.Attribute a "split" apos) [e] [] pos) (oM pSplit ta tb) := jo_m (fun ha hb => pe_split ha hb hs hbase hline) s_split ha hb
theorem jo_join {ta : TPe} {apos : Pos} (ha : JE X B a ta) (hb : JX X B e tb) (hs : starEach [e] X.env = [(false, eval e X.env)] := by rfl) (hbase : attributeBase a "join" X.env (eval a X.env) = eval a X.env := by rfl) (hline : (apos.endLine == pos.line) = true := by rfl) :
    JO X B (.Call (.Attribute a "join" apos) [e] [] pos) (oM pJoin ta tb) := jo_m (fun ha hb => pe_join ha hb hs hbase hline) s_join ha hb
end
/-! ### statements -/
section
variable {X : Cx} {B : Hp} {P : List Nat} {e : Expr} {x y z : Str} {pos px' py pz pt : Pos}
theorem js_st {t : TPo} (i : Nat) (nd : PX X) (hN : X.N[i]? = some x) (hi : i ∉ P) (hx : Loc X.env.scope x) (h : JO X B e t) (hs : swapsWith e (some (.Name x px')) pos.line X.env = pure false := by rfl) (hf : X.fn x = true ∨ X.env.scope.names.lookup x = some .local := by first | exact .inl rfl | exact .inr rfl) :
    JSt X B P (.Assign [.Name x px'] e pos) (zSet i t) := js_set hN hi (fun he => ps_set nd.nd hN hx he hs hf) h
theorem jg_n (i : Nat) (nd : PX X) (hN : X.N[i]? = some x) (hx : Loc X.env.scope x) (hf : X.fn x = true ∨ X.env.scope.names.lookup x = some .local := by first | exact .inl rfl | exact .inr rfl) : JG X B [i] (.Name x pos) (gNm i) := jg_name hN (pg_name nd.nd hN hx hf)
theorem jg_t2 {kk} (i j : Nat) (nd : PX X) (hNi : X.N[i]? = some x) (hNj : X.N[j]? = some y) (hx : Loc X.env.scope x) (hy : Loc X.env.scope y)
    (h1 : X.fn x = true ∨ X.env.scope.names.lookup x = some .local := by first | exact .inl rfl | exact .inr rfl) (h2 : X.fn y = true ∨ X.env.scope.names.lookup y = some .local := by first | exact .inl rfl | exact .inr rfl) : JG X B [i, j] (.Tuple [.Name x px', .Name y py] kk pt) (gTp2 i j) :=
  jg_tup2 hNi hNj (pg_tup nd.calm (pgs_cons (pg_name nd.nd hNi hx h1) (pgs_cons (pg_name nd.nd hNj hy h2) pgs_nil)))
end
end Pl
namespace Pl
open PySem PySem.Spec L2
section
variable {P : Program} {w : World} {K : PySem.W.Frag} {mg : Str → Option Value} {base : Heap} {N : List Str} {qual : Str} {sc : Scope} {f : Addr} {cdv : Value} {A : Around} {outer : List Env} {s : Shared} {H : Hp} {E : XK} {k : Nat}
theorem px_of (hgd : A.guards = some []) (hr : Room k (A.deeper (PyProof.Rows.envOfC qual sc s.heap.objs.size f cdv))) (nd : N.Nodup) : PX (cxOf CX0 P w K mg base N qual sc f cdv A outer s H E).nox :=
  ⟨by have := hr.un; show (A.deeper (PyProof.Rows.envOfC qual sc s.heap.objs.size f cdv)).units + 100 < cLine; omega, rfl, nd, hgd⟩
theorem PX.b {X : Cx} {s : Shared} {H : Hp} {scope : Scope} {ce : Env} {fp : List Addr} (px : PX X) : PX (X.blk s H scope ce fp) := ⟨px.hu, px.calm, px.nd, px.gd⟩
end
end Pl
/-! The pure layer, part 10: told things that are changed behind: looked at, thawed, written. -/
namespace Pl
open PySem PySem.Spec L2

/-! ### a look at what a name holds, whoever owns it -/
def pd : O → Option PyData
  | .sh d => some (er d)
  | .fl ds => some (.list (ds.map er))
  | .jd d => some (er d)
  | _ => none
def resP (ρ : Ev) : Op → Option PyData
  | .val d => some (er d)
  | .pl i => match ρ[i]? with
    | some (some o) => pd o
    | _ => none
theorem pd_dp {K : Kb} {F H : Hp} {v : V} {o : O} {l : List Addr} {d : PyData} (s : Same F H) (r : RO K F H v o l) (e : pd o = some d) : Dp K.K H v d := by
  cases r with
  | sh h => cases e; exact (h.mono s).dp
  | fl h1 h2 =>
    cases e
    exact .lst (.inl (.inl h1)) (h2.mono s).dp
  | jd h1 h2 h3 =>
    cases e
    exact (h3.mono fun a x z => by
      rcases cup_of z with z | ⟨_, z⟩
      · exact s a x z
      · exact (h1 a x z).1).dp
  | _ => cases e
theorem resP_dp {K : Kb} {σ : L2.St} {ρ : Ev} {F H : Hp} {fp : Nat → List Addr} {v : V} {p : Op} {d : PyData} (g : Good K σ ρ F H fp) (o : OpIs K F σ v p) (e : resP ρ p = some d) : Dp K.K H v d := by
  cases p with
  | val d' => cases e; exact (Dq.mono o g.same).dp
  | pl i =>
    have o' : σ[i]? = some (some v) := o
    simp only [resP] at e
    cases eo : ρ[i]? with
    | none => rw [eo] at e; cases e
    | some w =>
      cases w with
      | none => rw [eo] at e; cases e
      | some ob =>
        rw [eo] at e
        obtain ⟨v', hv, r⟩ := g.loc i ob eo
        rw [o'] at hv; cases hv
        exact pd_dp g.same r e
abbrev P2P := PyData → PyData → (O → Prop) → Prop
def o2p (p : P2P) (ta tb : TPx) : TPo := fun ρ Q => ta ρ fun x ρ1 => tb ρ1 fun y ρ2 => match resP ρ2 x, resP ρ2 y with
  | some d, some e => p d e fun o => Q o ρ2
  | _, _ => False
def pEqP : P2P := fun d e Q => min d.depth e.depth ≤ 64 ∧ Q (.sh (.bool (d.eqv e)))
def pNeP : P2P := fun d e Q => min d.depth e.depth ≤ 64 ∧ Q (.sh (.bool (!d.eqv e)))
def Op2P (K : Kb) (r : R2) (p : P2P) : Prop := ∀ (F H : Hp) (v w : V) (d e : PyData) (Q : O → Prop) (R : VK), Same F H → Dp K.K H v d → Dp K.K H w e → p d e Q → (∀ z H', Fin K F H Q z H' → R z H') → r v w H R
theorem s_eqP {K : Kb} : Op2P K (rEqP K.K false) pEqP := fun F H v w d e Q R s rv rw' q k => ⟨d, e, rv, rw', q.1, k _ _ (fin_sh s (.bl _) q.2)⟩
theorem s_neP {K : Kb} : Op2P K (rEqP K.K true) pNeP := fun F H v w d e Q R s rv rw' q k => ⟨d, e, rv, rw', q.1, k _ _ (fin_sh s (.bl _) q.2)⟩
section
variable {X : Cx} {B : Hp} {a b e : Expr} {ta tb : TPx} {pos : Pos}
theorem jo_2p {r : R2} {p : P2P} (hE : ∀ {ta tb : TE}, PE X a ta → PE X b tb → PE X e (tOp r ta tb)) (hr : Op2P (kb X B) r p) (ha : JX X B a ta) (hb : JX X B b tb) : JO X B e (o2p p ta tb) := by
  refine ⟨fun σ ρ F H fp Q g q => wE_of (hE pe_w pe_w) (wE_mono (ha.run σ ρ F H fp _ g q) fun v H1 ⟨x, ρ1, F1, fp1, x1, g1, e1, q1⟩ => ?_)⟩
  refine wE_mono (hb.run σ ρ1 F1 H1 fp1 _ g1 q1) fun w H2 ⟨y, ρ2, F2, fp2, y2, g2, e2, q2⟩ => ?_
  dsimp only at q2
  cases hx : resP ρ2 x with
  | none => rw [hx] at q2; exact q2.elim
  | some d =>
    cases hy : resP ρ2 y with
    | none => rw [hx, hy] at q2; exact q2.elim
    | some d' =>
      rw [hx, hy] at q2
      exact hr F2 H2 v w d d' _ _ g2.same (resP_dp g2 (x1.mono e2.f) hx) (resP_dp g2 y2 hy) q2 fun z H3 fz => (g2.fin fz).ext (e1.trans e2)
theorem jt_2p {r : R2} {p : P2P} (hT : ∀ {ta tb : TE}, PE X a ta → PE X b tb → PT X e (tTest (tOp r ta tb))) (hr : Op2P (kb X B) r p) (ha : JX X B a ta) (hb : JX X B b tb) : JT X B e (bO (o2p p ta tb)) := by
  refine ⟨fun σ ρ F H fp Q g q => wT_of (hT pe_w pe_w) (wE_mono (ha.run σ ρ F H fp _ g q) fun v H1 ⟨x, ρ1, F1, fp1, x1, g1, e1, q1⟩ => ?_)⟩
  refine wE_mono (hb.run σ ρ1 F1 H1 fp1 _ g1 q1) fun w H2 ⟨y, ρ2, F2, fp2, y2, g2, e2, q2⟩ => ?_
  dsimp only at q2
  cases hx : resP ρ2 x with
  | none => rw [hx] at q2; exact q2.elim
  | some d =>
    cases hy : resP ρ2 y with
    | none => rw [hx, hy] at q2; exact q2.elim
    | some d' =>
      rw [hx, hy] at q2
      exact hr F2 H2 v w d d' _ _ g2.same (resP_dp g2 (x1.mono e2.f) hx) (resP_dp g2 y2 hy) q2 fun z H3 fz => ((g2.fin fz).ext (e1.trans e2)).bool
theorem jo_eqP (px : PX X) (ha : JX X B a ta) (hb : JX X B b tb) : JO X B (.Compare a [.Eq] [b] pos) (o2p pEqP ta tb) := jo_2p (fun ha hb => pe_cmpR (op_eqP px) ha hb (nomark _)) s_eqP ha hb
theorem jo_neP (px : PX X) (ha : JX X B a ta) (hb : JX X B b tb) : JO X B (.Compare a [.NotEq] [b] pos) (o2p pNeP ta tb) := jo_2p (fun ha hb => pe_cmpR (op_neP px) ha hb (nomark _)) s_neP ha hb
theorem jt_eqP (px : PX X) (ha : JX X B a ta) (hb : JX X B b tb) : JT X B (.Compare a [.Eq] [b] pos) (bO (o2p pEqP ta tb)) := jt_2p (fun ha hb => pt_cmpR (op_eqP px) ha hb (nomark _)) s_eqP ha hb
theorem jt_neP (px : PX X) (ha : JX X B a ta) (hb : JX X B b tb) : JT X B (.Compare a [.NotEq] [b] pos) (bO (o2p pNeP ta tb)) := jt_2p (fun ha hb => pt_cmpR (op_neP px) ha hb (nomark _)) s_neP ha hb
/-! isinstance -/
def tyP : PyData → String
  | .none => "NoneType"
  | .bool _ => "bool"
  | .int _ => "int"
  | .str _ => "str"
  | .list _ => "list"
  | .tuple _ => "tuple"
  | .dict _ => "dict"
theorem tyP_X {K : PySem.W.Frag} {H : Hp} {v : V} {d : PyData} (h : Dp K H v d) : TyX K H v (.type (tyP d)) := by
  cases h with
  | non => exact .base .non
  | bl b => exact .base (.bl b)
  | int i => exact .base (.int i)
  | str x => exact .base (.str x)
  | lst h1 _ =>
    rcases h1 with (h1 | ⟨o, h1⟩) | ⟨o, its, n, h1, h2, _⟩
    · exact .base (.lst h1)
    · exact .base (.frz h1)
    · exact .kList h1 h2
  | tup h1 _ =>
    rcases h1 with (h1 | ⟨o, h1⟩) | ⟨o, its, n, h1, h2, _⟩
    · exact .base (.tup h1)
    · exact .fTuple h1
    · exact .kTuple h1 h2
def isP (d : PyData) (T : String) : Bool := isTN (tyP d) T
theorem kitP_list (d : PyData) : kitB (tyP d) "list" = some (isP d "list") := by
  have h : ∀ t ∈ ["NoneType", "bool", "int", "str", "list", "tuple", "dict"], kitB t "list" = some (isTN t "list") := by decide +kernel
  exact h (tyP d) (by cases d <;> simp [tyP])
def oIsiP (T : String) (ta : TPx) : TPo := fun ρ Q => ta ρ fun x ρ1 => match resP ρ1 x with
  | some d => Q (.sh (.bool (isP d T))) ρ1
  | none => False
theorem jo_isiP {T : String} {x : Str} {p p2 : Pos} (hT : ∀ d : PyData, kitB (tyP d) T = some (isP d T)) (hg : Gl X "isinstance") (hm : X.mg "isinstance" = none) (hg2 : Gl X x) (hm2 : X.mg x = none) (hv2 : bootBuiltins x = some (.type T)) (ha : JX X B e ta)
    (hn : x ≠ "__name__" := by decide) (hd : (x == ("__debug__" : Str)) = false := by decide) (hv : bootBuiltins "isinstance" = some (.builtin "isinstance") := by decide +kernel)
    (h1 : starEach [e, .Name x p2] X.env = (false, eval e X.env) :: starEach [.Name x p2] X.env := by rfl) (h2 : (backTo pos (starEach [.Name x p2] X.env)).any (·.1) = false := by rfl)
    (h3 : starEach [.Name x p2] X.env = (false, eval (.Name x p2) X.env) :: starEach [] X.env := by rfl) :
    JO X B (.Call (.Name "isinstance" p) [e, .Name x p2] [] pos) (oIsiP T ta) := by
  refine ⟨fun σ ρ F H fp Q g q => wE_of (pe_callB call_isi hg hm hv (pa_cons pe_w (pa_cons (pe_bltn (v := .ty T) hg2 hm2 hv2 rfl hn hd) pa_nil h3) h1) (by decide) (by decide) h1 h2) (wE_mono (ha.run σ ρ F H fp _ g q) fun v H1 ⟨y, ρ1, F1, fp1, x1, g1, e1, q1⟩ => ?_)⟩
  dsimp only at q1
  cases hx : resP ρ1 y with
  | none => rw [hx] at q1; exact q1.elim
  | some d =>
    rw [hx] at q1
    exact ⟨v, .ty T, .type (tyP d), .type T, isP d T, rfl, .ty T, tyP_X (resP_dp g1 x1 hx), kit_ty (hT d), (g1.fin (fin_sh g1.same (.bl _) q1)).ext e1⟩
end

/-! ### calls whose answer is thawed -/
theorem fm_union {l m : List Addr} (h1 : l.Nodup) (h2 : m.Nodup) : (l ++ m.filter fun a => !l.contains a).Nodup := by
  refine List.nodup_append.mpr ⟨h1, h2.sublist (List.filter_sublist ..), fun a ma b mb hab => ?_⟩
  subst hab
  have := (List.mem_filter.mp mb).2
  simp [ma] at this
theorem in_union {l m : List Addr} {a : Addr} : a ∈ (l ++ m.filter fun a => !l.contains a) ↔ a ∈ l ∨ a ∈ m := by
  rw [List.mem_append, List.mem_filter]
  constructor
  · rintro (h | h)
    · exact .inl h
    · exact .inr h.1
  · rintro (h | h)
    · exact .inl h
    · by_cases q : a ∈ l
      · exact .inl q
      · exact .inr ⟨h, by simpa using q⟩
/-- G's part at l -/
def cutTo (G : Hp) (l : List Addr) : Hp := fun a => if a ∈ l then G a else none
section
variable {K : Kb} {F G : Hp}
theorem cut_mono {l m : List Addr} (h : ∀ a ∈ l, a ∈ m) : Same (cup F (cutTo G l)) (cup F (cutTo G m)) := fun a x z => by
  rcases cup_of z with z | ⟨n, z⟩
  · exact cup_l a x z
  · refine cup_r n ?_
    unfold cutTo at z ⊢
    by_cases q : a ∈ l
    · rw [if_pos q] at z; rw [if_pos (h a q)]; exact z
    · rw [if_neg q] at z; cases z
/-- an address, with what else is wanted -/
theorem need_one {a : Addr} {x : HO} (s : Same F G) (e : G a = some x) : ∃ l : List Addr, l.Nodup ∧ (∀ b ∈ l, F b = none ∧ ∃ y, G b = some y) ∧ ∀ m, (∀ b ∈ l, b ∈ m) → cup F (cutTo G m) a = some x := by
  rcases none_or F a with n | ⟨y, n⟩
  · refine ⟨[a], by simp, fun b m => by simp at m; subst m; exact ⟨n, x, e⟩, fun m h => cup_r n ?_⟩
    unfold cutTo
    rw [if_pos (h a (by simp))]; exact e
  · refine ⟨[], by simp, fun b m => by simp at m, fun m h => cup_l a x ?_⟩
    have := s a y n
    rw [e] at this; cases this
    exact n
mutual
theorem need_dq (s : Same F G) : ∀ (d : D) (v : V), Dq K G v d → ∃ l : List Addr, l.Nodup ∧ (∀ b ∈ l, F b = none ∧ ∃ y, G b = some y) ∧ ∀ m, (∀ b ∈ l, b ∈ m) → Dq K (cup F (cutTo G m)) v d
  | .none, _, h => by cases h; exact ⟨[], by simp, fun b m => by simp at m, fun _ _ => .non⟩
  | .bool b, _, h => by cases h; exact ⟨[], by simp, fun b m => by simp at m, fun _ _ => .bl b⟩
  | .int i, _, h => by cases h; exact ⟨[], by simp, fun b m => by simp at m, fun _ _ => .int i⟩
  | .str x, _, h => by cases h; exact ⟨[], by simp, fun b m => by simp at m, fun _ _ => .str x⟩
  | .list ds, _, h => by
    cases h with
    | lst h1 h2 =>
      obtain ⟨l, a1, a2, a3⟩ := need_all s ds _ h2
      rcases h1 with (h1 | ⟨o, h1⟩) | h1
      · obtain ⟨l', b1, b2, b3⟩ := need_one s h1
        exact ⟨_, fm_union a1 b1, fun b m => (in_union.mp m).elim (a2 b) (b2 b), fun m hm => .lst (.inl (.inl (b3 m fun b hb => hm b (in_union.mpr (.inr hb))))) (a3 m fun b hb => hm b (in_union.mpr (.inl hb)))⟩
      · obtain ⟨l', b1, b2, b3⟩ := need_one s h1
        exact ⟨_, fm_union a1 b1, fun b m => (in_union.mp m).elim (a2 b) (b2 b), fun m hm => .lst (.inl (.inr ⟨o, b3 m fun b hb => hm b (in_union.mpr (.inr hb))⟩)) (a3 m fun b hb => hm b (in_union.mpr (.inl hb)))⟩
      · exact ⟨l, a1, a2, fun m hm => .lst (.inr h1) (a3 m hm)⟩
  | .tuple ds, _, h => by
    cases h with
    | tup h1 h2 =>
      obtain ⟨l, a1, a2, a3⟩ := need_all s ds _ h2
      rcases h1 with (h1 | ⟨o, h1⟩) | h1
      · obtain ⟨l', b1, b2, b3⟩ := need_one s h1
        exact ⟨_, fm_union a1 b1, fun b m => (in_union.mp m).elim (a2 b) (b2 b), fun m hm => .tup (.inl (.inl (b3 m fun b hb => hm b (in_union.mpr (.inr hb))))) (a3 m fun b hb => hm b (in_union.mpr (.inl hb)))⟩
      · obtain ⟨l', b1, b2, b3⟩ := need_one s h1
        exact ⟨_, fm_union a1 b1, fun b m => (in_union.mp m).elim (a2 b) (b2 b), fun m hm => .tup (.inl (.inr ⟨o, b3 m fun b hb => hm b (in_union.mpr (.inr hb))⟩)) (a3 m fun b hb => hm b (in_union.mpr (.inl hb)))⟩
      · exact ⟨l, a1, a2, fun m hm => .tup (.inr h1) (a3 m hm)⟩
  | .nl ds, _, h => by
    cases h with
    | nl h0 h1 h2 =>
      obtain ⟨l, a1, a2, a3⟩ := need_all s ds _ h2
      obtain ⟨l', b1, b2, b3⟩ := need_one s h1
      exact ⟨_, fm_union a1 b1, fun b m => (in_union.mp m).elim (a2 b) (b2 b), fun m hm => .nl h0 (b3 m fun b hb => hm b (in_union.mpr (.inr hb))) (a3 m fun b hb => hm b (in_union.mpr (.inl hb)))⟩
theorem need_all (s : Same F G) : ∀ (ds : List D) (vs : List V), DqAll K G vs ds → ∃ l : List Addr, l.Nodup ∧ (∀ b ∈ l, F b = none ∧ ∃ y, G b = some y) ∧ ∀ m, (∀ b ∈ l, b ∈ m) → DqAll K (cup F (cutTo G m)) vs ds
  | [], _, h => by cases h; exact ⟨[], by simp, fun b m => by simp at m, fun _ _ => .nil⟩
  | d :: ds, _, h => by
    cases h with
    | cons h1 h2 =>
      obtain ⟨l, a1, a2, a3⟩ := need_dq s d _ h1
      obtain ⟨l', b1, b2, b3⟩ := need_all s ds _ h2
      exact ⟨_, fm_union a1 b1, fun b m => (in_union.mp m).elim (a2 b) (b2 b), fun m hm => .cons (a3 m fun b hb => hm b (in_union.mpr (.inl hb))) (b3 m fun b hb => hm b (in_union.mpr (.inr hb)))⟩
end
end
def thaw (o : O) : Option O := match fz o with
  | some d => some (.jd d)
  | none => none
/-- the arguments are shared data, the answer is none else's -/
def oCallT (C : Con) (dv : List D) (ts : TPs) : TPo := fun ρ Q => ts ρ fun ps ρ1 => match valsOf ps with
  | some ds => C (ds.map (fun d => .sh (old d)) ++ dv.map .sh) fun r _ => match thaw r with
    | some o => Q o ρ1
    | none => False
  | none => False
theorem ros_sh {K : Kb} {F H : Hp} : ∀ {vs : List V} {ds : List D}, DqAll K F vs ds → ROs K F H vs (ds.map .sh) []
  | [], [], .nil => .nil
  | _ :: _, _ :: _, .cons h t => .cons (l := []) (.sh h) (ros_sh t)
theorem oldAll_map : ∀ ds : List D, oldAll ds = ds.map old
  | [] => rfl
  | d :: ds => by
    show old d :: oldAll ds = _
    rw [oldAll_map ds]; rfl
section
variable {X : Cx} {B : Hp} {x : Str} {p pos : Pos} {e : Expr} {es : List Expr} {ts : TPs} {C : Con} {dv : List D} {k : Nat}
theorem callT_vals {dvs : List V} (hd : ∀ B F, DqAll ⟨X.K, B⟩ F dvs dv) {σ : L2.St} {ρ1 : Ev} {F H F1 H1 : Hp} {fp fp1 : Nat → List Addr} {Q : O → Ev → Prop} {E : XK} {vs : List V} {ps : List Op} (x1 : OpsAre (kb X B) F1 σ vs ps) (g1 : Good (kb X B) σ ρ1 F1 H1 fp1) (e1 : Ext F H (inL fp) F1 H1 (inL fp1))
    (q1 : match valsOf ps with
      | some ds => C (ds.map (fun d => .sh (old d)) ++ dv.map .sh) fun r _ => match thaw r with
        | some o => Q o ρ1
        | none => False
      | none => False) : spOf X.K C (vs ++ dvs) H1 (QO (kb X B) σ F H (inL fp) Q) E := by
  split at q1
  · rename_i ds ev
    have da := vals_of x1 ev
    have do' : DqAll ⟨X.K, F1⟩ F1 vs (ds.map old) := by rw [← oldAll_map]; exact dq_oldAll (K := kb X B) ds vs da
    have ro : ROs ⟨X.K, F1⟩ F1 H1 (vs ++ dvs) (ds.map (fun d => O.sh (old d)) ++ dv.map O.sh) [] := by
      have := ros_app (H := H1) (hd F1 F1) (ros_sh (H := H1) do')
      rwa [List.map_map] at this
    refine ⟨F1, F1, _, [], _, Same.refl F1, g1.same, ro, List.nodup_nil, fun a m => by simp at m, q1, ?_⟩
    intro r' os' qq v H' F' lr l' rr ros nd' df' sa' ex'
    unfold thaw at qq
    cases ef : fz r' with
    | none => rw [ef] at qq; exact qq.elim
    | some d =>
      rw [ef] at qq
      obtain ⟨F2, f1, f2, f3, f4⟩ := freeze rr ef sa' ex'.f fun a m => df' a (List.mem_append_left _ m)
      have s12 : Same F1 F2 := ex'.f.trans f1
      obtain ⟨l, a1, a2, a3⟩ := need_dq s12 d v f4
      -- all that is new stands in none's hands
      have new : ∀ a ∈ l, H1 a = none := fun a m => by
        obtain ⟨n, y, e⟩ := a2 a m
        rcases f3 a y e with z | z
        · rcases ex'.fn a y z with w | w | w
          · rw [n] at w; cases w
          · simp at w
          · exact w
        · rcases ex'.l a (List.mem_append_left _ z) with w | w
          · simp at w
          · exact w
      have keep : ∀ a y, H1 a = some y → H' a = some y := fun a y z => ex'.h a y (by simp) z
      have g2 : Good (kb X B) σ ρ1 F1 H' fp1 := g1.step (Same.refl F1) (fun a y z => keep a y (g1.same a y z)) (fun a y _ z => keep a y z) fun a ⟨i, m⟩ => g1.df i a m
      have rj : RO (kb X B) F1 H' v (.jd d) l := .jd (G := cutTo F2 l) (fun a y z => by
          unfold cutTo at z
          by_cases q : a ∈ l
          · rw [if_pos q] at z; exact ⟨f2 a y z, q⟩
          · rw [if_neg q] at z; cases z) (fun a m => let ⟨_, y, e⟩ := a2 a m; ⟨y, f2 a y e⟩) (a3 l fun b hb => hb)
      refine ⟨.jd d, ρ1, F1, fp1, l, rj, a1, fun a m => ⟨(a2 a m).1, fun i mi => ?_⟩, g2, e1.trans ⟨Same.refl F1, fun a y _ z => keep a y z, fun a y z => ⟨y, keep a y z⟩, fun a z => ?_, fun a y z => .inl z⟩, qq⟩
      · obtain ⟨y, z⟩ := g1.there ⟨i, mi⟩
        rw [new a m] at z; cases z
      · rcases z with z | z
        · exact .inr (new a z)
        · exact .inl z
  · exact q1.elim
/-- x(e, ..), x a def of the module; the answer is thawed -/
theorem jo_callT (px : PX X) (c : Callee X.prog X.w X.K X.mg X.base k x dv C) (hr : Room k X.A) (hg : Gl X x) (ha : JS X B (e :: es) ts) (hdb : (x == ("__debug__" : Str)) = false := by decide)
    (he : starEach (e :: es) X.env = (false, eval e X.env) :: starEach es X.env := by rfl) (hpl : (backTo pos (starEach es X.env)).any (·.1) = false := by rfl) : JO X B (.Call (.Name x p) (e :: es) [] pos) (oCallT C dv ts) := by
  obtain ⟨f, fd, ps, ds, dvs, G, hm, hk, hb, hv, hd⟩ := c
  exact ⟨fun σ ρ F H fp Q g q => wE_of (pe_callG G px hr hg hm hk hb hv pa_w hdb he hpl) (wA_mono (ha.run σ ρ F H fp _ g q) fun vs H1 ⟨ps, ρ1, F1, fp1, x1, g1, e1, q1⟩ => callT_vals hd x1 g1 e1 q1)⟩
end

/-! ### told lists are written: nothing more is known of them -/
def jn : O → Option Nat
  | .jk n => some n
  | .fl ds => some ds.length
  | .jd (.nl ds) => some ds.length
  | _ => none
theorem jn_lst {K : Kb} {F H : Hp} {v : V} {o : O} {l : List Addr} {n : Nat} (r : RO K F H v o l) (e : jn o = some n) : ∃ a vs, v = .ref a ∧ H a = some (.lst vs) ∧ vs.length ≤ n ∧ a ∈ l := by
  cases r with
  | fl h1 h2 => cases e; exact ⟨_, _, rfl, h1, Nat.le_of_eq h2.len, by simp⟩
  | jk h1 h2 => cases e; exact ⟨_, _, rfl, h1, h2, by simp⟩
  | @jd v d G l h1 h2 h3 =>
    cases h3 with
    | nl z0 z1 z2 =>
      cases e
      have z0 : F _ = none := z0
      rcases cup_of z1 with z | ⟨_, z⟩
      · rw [z0] at z; cases z
      · exact ⟨_, _, rfl, (h1 _ _ z).1, Nat.le_of_eq z2.len, (h1 _ _ z).2⟩
    | _ => cases e
  | _ => cases e
section
variable {K : Kb} {σ : L2.St} {ρ : Ev} {F H : Hp} {fp : Nat → List Addr}
theorem Good.wjunk (g : Good K σ ρ F H fp) {i : Nat} {vs vs' : List V} {a : Addr} {n : Nat} (hv : σ[i]? = some (some (.ref a))) (h : H a = some (.lst vs)) (hf : a ∈ fp i) (hl : vs'.length ≤ n) :
    ∃ fp', Good K σ (ρ.set i (some (.jk n))) F (upd H a (.lst vs')) fp' ∧ Ext F H (inL fp) F (upd H a (.lst vs')) (inL fp') := by
  have nF : F a = none := g.df i a hf
  have nj : ∀ j, j ≠ i → a ∉ fp j := fun j n m => g.dj j i a n m hf
  have g0 := g.drop i
  have g1 : Good K σ (ρ.set i none) F (upd H a (.lst vs')) (fun j => if j = i then [] else fp j) := g0.step (Same.refl F) (fun b x z => by rw [upd_ne (ne_of_none z nF)]; exact g.same b x z)
    (fun b x ⟨j, m⟩ z => by
      have m : b ∈ (if j = i then [] else fp j) := m
      have n : b ≠ a := by
        rintro rfl
        by_cases w : j = i
        · rw [if_pos w] at m; simp at m
        · rw [if_neg w] at m; exact nj j w m
      rw [upd_ne n]; exact z) (fun b ⟨j, m⟩ => g0.df j b m)
  have g2 := g1.alter (i := i) (o := .jk n) (lo := [a]) hv (.jk upd_same hl) (by simp) (fun b m => by
    simp at m
    subst m
    refine ⟨nF, fun j n m => ?_⟩
    have m : b ∈ (if j = i then [] else fp j) := m
    rw [if_neg n] at m
    exact nj j n m)
  rw [List.set_set] at g2
  refine ⟨_, g2, ⟨Same.refl F, fun b x n z => ?_, fun b x z => ?_, fun b z => ?_, fun b x z => .inl z⟩⟩
  · have n' : b ≠ a := by rintro rfl; exact n ⟨i, hf⟩
    rw [upd_ne n']; exact z
  · by_cases w : b = a
    · subst w; exact ⟨_, upd_same⟩
    · exact ⟨x, by rw [upd_ne w]; exact z⟩
  · rcases if_in z with z | z
    · simp at z; subst z; exact .inl ⟨i, hf⟩
    · rcases if_in z with z | z
      · simp at z
      · exact .inl z
theorem Good.jnAt (g : Good K σ ρ F H fp) {i n : Nat} {o : O} (e : ρ[i]? = some (some o)) (j : jn o = some n) : ∃ a vs, σ[i]? = some (some (.ref a)) ∧ H a = some (.lst vs) ∧ a ∈ fp i ∧ vs.length ≤ n := by
  obtain ⟨v, hv, r⟩ := g.loc i o e
  obtain ⟨a, vs, rfl, h1, h2, h3⟩ := jn_lst r j
  exact ⟨a, vs, hv, h1, h3, h2⟩
end
def jAt (ρ : Ev) (i : Nat) : Option Nat := match ρ[i]? with
  | some (some o) => jn o
  | _ => none
theorem jAt_at {K : Kb} {σ : L2.St} {ρ : Ev} {F H : Hp} {fp : Nat → List Addr} (g : Good K σ ρ F H fp) {i n : Nat} (e : jAt ρ i = some n) : ∃ a vs, σ[i]? = some (some (.ref a)) ∧ H a = some (.lst vs) ∧ a ∈ fp i ∧ vs.length ≤ n := by
  unfold jAt at e
  split at e
  · rename_i o eo
    exact g.jnAt eo e
  · cases e
def zAppJ (i : Nat) (t : TPe) : TPS := fun D ρ => match jAt ρ i with
  | some _ => t ρ fun _ ρ' => match jAt ρ' i with
    | some n => n < sizeLine ∧ D.nx (ρ'.set i (some (.jk (n + 1))))
    | none => False
  | none => False
section
variable {X : Cx} {B : Hp} {P : List Nat} {x : Str} {e : Expr} {i : Nat} {t : TPe} {npos apos cpos pos : Pos}
theorem js_appJ (hp : PE X (.Name x npos) (tVar i)) (h : JE X B e t)
    (hbase : attributeBase (.Name x npos) "append" X.env (eval (.Name x npos) X.env) = eval (.Name x npos) X.env := by rfl)
    (hfew : ((backTo cpos (starEach [e] X.env)).all (fun x => !x.1) && (backToKw cpos (keywordEach [] X.env)).all (fun x => x.1.isSome)
      && decide (([e] : List Expr).length + ([] : List Keyword).length + (if ([] : List Keyword).isEmpty then 0 else 1) < 30)) = true := by rfl)
    (hline : (apos.endLine == cpos.line) = true := by rfl) (hst : starEach [e] X.env = (false, eval e X.env) :: starEach [] X.env := by rfl) (hplain : (backTo cpos (starEach [] X.env)).any (·.1) = false := by rfl)
    (hs : swapsWith (.Call (.Attribute (.Name x npos) "append" apos) [e] [] cpos) none pos.line X.env = pure false := by rfl) :
    JSt X B P (.Expr (.Call (.Attribute (.Name x npos) "append" apos) [e] [] cpos) pos) (zAppJ i t) := by
  refine ⟨fun σ ρ F H fp D g q => wS_of (ps_expr (pe_bm PySem.F.plainAttrs_list PySem.F.slot_list_append PySem.F.type_list_append mt_append hp (pa_cons pe_w pa_nil hst) hbase hfew hline hst hplain) hs) ?_⟩
  unfold zAppJ at q
  split at q
  · rename_i n e0
    obtain ⟨a, vs, hv, ha, hf, hd⟩ := jAt_at g e0
    refine ⟨.ref a, hv, .inl ⟨rfl, vs, .inl (.inl ha)⟩, wE_mono (h.run σ ρ F H fp _ g q) fun w H1 ⟨d, ρ1, F1, fp1, x1, g1, e1, q1⟩ => ?_⟩
    dsimp only at q1
    split at q1
    · rename_i n1 ed
      obtain ⟨a1, vs1, hv1, ha1, hf1, hd1⟩ := jAt_at g1 ed
      rw [hv] at hv1; cases hv1
      obtain ⟨fp', g2, e2⟩ := g1.wjunk (vs' := vs1 ++ [w]) (n := n1 + 1) hv ha1 hf1 (by rw [List.length_append, List.length_singleton]; omega)
      exact ⟨a, vs1, w, rfl, rfl, ha1, by omega, _, F1, fp', g2, e1.trans e2, fun _ _ => rfl, q1.2⟩
    · exact q1.elim
  · exact q.elim
end

/-! ### for y in x[:1]: y.append(c), x told -/
/-- no list at the top -/
def flat : D → Bool
  | .list _ => false
  | .nl _ => false
  | _ => true
def zPoke1 (i j : Nat) : TPS := fun D ρ => match ρ[i]? with
  | some (some (.jd (.nl []))) => D.nx (ρ.set j none)
  | some (some (.jd (.nl (.nl es :: ds)))) => es.length + ds.length + 2 < sizeLine ∧ D.nx ((ρ.set i (some (.jk (ds.length + 2)))).set j none)
  | _ => False
theorem Good.other {K : Kb} {σ : L2.St} {ρ : Ev} {F H : Hp} {fp : Nat → List Addr} (g : Good K σ ρ F H fp) {j : Nat} {w : Option V} (h : ∀ o, ρ[j]? ≠ some (some o)) : Good K (σ.set j w) ρ F H fp where
  same := g.same
  bs := g.bs
  loc := fun i o e => by
    obtain ⟨v, hv, r⟩ := g.loc i o e
    have n : i ≠ j := fun z => h o (z ▸ e)
    exact ⟨v, by rw [List.getElem?_set_ne (Ne.symm n)]; exact hv, r⟩
  off := g.off
  nd := g.nd
  dj := g.dj
  df := g.df
  len := by rw [List.length_set]; exact g.len
theorem set_none {ρ : Ev} {j : Nat} : ∀ o, (ρ.set j none)[j]? ≠ some (some o) := fun o e => by
  by_cases h : j < ρ.length
  · rw [List.getElem?_set_self h] at e; cases e
  · rw [List.getElem?_eq_none (by rw [List.length_set]; omega)] at e; cases e
theorem cutV1 (vs : List V) : cutV vs none (some 1) = vs.take 1 := by
  unfold cutV
  rw [HT.sIx_none, show HT.sIx vs.length vs.length (some 1) = min 1 vs.length from HT.sIx_nat _ _ 1, List.drop_zero, Nat.sub_zero]
  cases vs with
  | nil => rfl
  | cons v r => rw [show min 1 (v :: r).length = 1 by rw [List.length_cons]; omega]
section
variable {X : Cx} {B : Hp} {P : List Nat} {x y : Str} {i j : Nat} {npos qpos p2 ps py p3 apos cpos c1 c2 epos pos : Pos} {j1 j2 : Nat}
theorem js_poke1 (px : PX X) (hpo : PassesOwn (model X.prog X.w) X.A X.env X.xe) (hx : PE X (.Name x npos) (tVar i)) (hy : PE X (.Name y p3) (tVar j)) (hNj : X.N[j]? = some y) (hg : PG X (.Name y py) (gName j)) (hij : i ≠ j) (hP : j ∉ P)
    (hbase : attributeBase (.Name y p3) "append" X.env (eval (.Name y p3) X.env) = eval (.Name y p3) X.env := by rfl)
    (hfew : ((backTo cpos (starEach [.Constant .none j2 c2] X.env)).all (fun x => !x.1) && (backToKw cpos (keywordEach [] X.env)).all (fun x => x.1.isSome)
      && decide (([.Constant .none j2 c2] : List Expr).length + ([] : List Keyword).length + (if ([] : List Keyword).isEmpty then 0 else 1) < 30)) = true := by rfl)
    (hline : (apos.endLine == cpos.line) = true := by rfl) (hst : starEach [.Constant .none j2 c2] X.env = (false, eval (.Constant .none j2 c2) X.env) :: starEach [] X.env := by rfl) (hplain : (backTo cpos (starEach [] X.env)).any (·.1) = false := by rfl)
    (hs : swapsWith (.Call (.Attribute (.Name y p3) "append" apos) [.Constant .none j2 c2] [] cpos) none epos.line X.env = pure false := by rfl)
    (hs2 : ∀ z, foldedSetIterable (.Subscript (.Name x npos) (.Slice none (some (.Constant (.int 1) j1 c1)) none p2) ps) X.env z = pure z := by intro _; rfl) :
    JSt X B P (.For (.Name y py) (.Subscript (.Name x npos) (.Slice none (some (.Constant (.int 1) j1 c1)) none p2) ps) [.Expr (.Call (.Attribute (.Name y p3) "append" apos) [.Constant .none j2 c2] [] cpos) epos] [] pos) (zPoke1 i j) := by
  refine ⟨fun σ ρ F H fp D g q pins s I => ?_⟩
  have hjl : j < σ.length := by rw [I.len]; exact (List.getElem?_eq_some_iff.mp hNj).1
  refine (wS_of (ps_for hpo px.calm (pi_list (pe_slice sl_list hx po_none (po_some pe_int))) hg (pss_one (ps_expr (pe_bm PySem.F.plainAttrs_list PySem.F.slot_list_append PySem.F.type_list_append mt_append hy (pa_cons pe_non pa_nil hst) hbase hfew hline hst hplain) hs)) hs2) ?_) pins s I
  unfold zPoke1 at q
  split at q
  · -- nothing is told
    rename_i e
    obtain ⟨v, hv, r⟩ := g.loc i _ e
    obtain ⟨a, vs, rfl, ha, hl, ma⟩ := jn_lst r (n := 0) rfl
    have e0 : vs = [] := List.length_eq_zero_iff.mp (by omega)
    subst e0
    refine ⟨.ref a, hv, 1, rfl, a, [], rfl, .inl (.inl ha), fun c nc => ⟨c, rfl, ⟨_, .inl (.inl upd_same)⟩, fun i' m σ' H' => i' = 0 ∧ σ' = σ ∧ H' = upd H c (.lst (cutV [] none (some 1))), ⟨0, rfl, rfl, rfl⟩, ?_⟩⟩
    rintro i' m σ' H' ⟨rfl, rfl, rfl⟩
    have g1 := (g.nx (F' := F) (H' := upd H c (.lst (cutV [] none (some 1)))) (lo := []) ⟨Same.refl F, same_upd nc, g.same.trans (same_upd nc), fun _ _ z => .inl z, fun a m => by simp at m, List.nodup_nil⟩)
    refine .inl ⟨⟨_, .inl (.inl upd_same), by rw [cutV1]; exact Nat.le_refl _⟩, _, F, _, g1.drop j, ⟨Same.refl F, fun b x _ z => same_upd nc b x z, fun b x z => ⟨x, same_upd nc b x z⟩, fun b z => ?_, fun b x z => .inl z⟩, fun _ _ => rfl, q⟩
    rcases if_in z with z | z
    · simp at z
    · exact .inl z
  · rename_i es ds e
    obtain ⟨v, hv, r⟩ := g.loc i _ e
    obtain ⟨hlt, q⟩ := q
    have hfi : ∀ b ∈ fp i, F b = none := fun b m => g.df i b m
    generalize hlf : fp i = l at r
    cases r with
    | @jd _ _ G _ h1 h2 h3 =>
      cases h3 with
      | @nl a vs _ z0 z1 z2 =>
        cases z2 with
        | @cons v0 vs' _ _ w1 w2 =>
          cases w1 with
          | @nl b ws _ y0 y1 y2 =>
            have z0 : F a = none := z0
            have y0 : F b = none := y0
            have ga : H a = some (.lst (.ref b :: vs')) ∧ a ∈ l := by
              rcases cup_of z1 with z | ⟨_, z⟩
              · rw [z0] at z; cases z
              · exact h1 a _ z
            have gb : H b = some (.lst ws) ∧ b ∈ l := by
              rcases cup_of y1 with z | ⟨_, z⟩
              · rw [y0] at z; cases z
              · exact h1 b _ z
            have l1 := w2.len
            have l2 := y2.len
            refine ⟨.ref a, hv, 1, rfl, a, _, rfl, .inl (.inl ga.1), fun c nc => ⟨c, rfl, ⟨_, .inl (.inl upd_same)⟩, fun i' m σ' H' => (i' = 0 ∧ m = 1 ∧ σ' = σ ∧ H' = upd H c (.lst [.ref b])) ∨
              (i' = 1 ∧ m = 0 ∧ σ' = σ.set j (some (.ref b)) ∧ H' = upd (upd H c (.lst [.ref b])) b (.lst (ws ++ [.non]))), ⟨1, .inl ⟨rfl, rfl, rfl, by rw [cutV1]; rfl⟩⟩, ?_⟩⟩
            have ncb : c ≠ b := fun z => by rw [z, gb.1] at nc; cases nc
            have nca : c ≠ a := fun z => by rw [z, ga.1] at nc; cases nc
            rintro i' m σ' H' (⟨rfl, rfl, rfl, rfl⟩ | ⟨rfl, rfl, rfl, rfl⟩)
            · refine .inr ⟨⟨[.ref b], .ref b, .inl (.inl upd_same), rfl⟩, fun σ'' H'' => σ'' = σ'.set j (some (.ref b)) ∧ H'' = upd (upd H c (.lst [.ref b])) b (.lst (ws ++ [.non])), fun σ'' H'' hN => ⟨0, Nat.zero_lt_one, .inr ⟨rfl, rfl, hN.1, hN.2⟩⟩, fun x H3 hy3 => ?_⟩
              obtain ⟨rfl, f1⟩ := hy3
              have ex : x = .ref b := (Option.some.inj ((f1 [.ref b] (.inl (.inl upd_same))).symm)).symm ▸ rfl
              subst ex
              have hb1 : (upd H c (.lst [.ref b])) b = some (.lst ws) := by rw [upd_ne (Ne.symm ncb)]; exact gb.1
              exact ⟨.ref b, List.getElem?_set_self hjl, .inl ⟨rfl, ws, .inl (.inl hb1)⟩, b, ws, .non, rfl, rfl, hb1, by omega, rfl, rfl⟩
            · refine .inl ⟨⟨[.ref b], .inl (.inl (by rw [upd_ne ncb]; exact upd_same)), Nat.le_refl _⟩, ?_⟩
              -- the names behind the loop
              have fa : ∀ k, k ≠ i → ∀ z ∈ l, z ∉ fp k := fun k n z mz mk => g.dj k i z n mk (by rw [hlf]; exact mz)
              have g0 := g.drop i
              have g1 : Good (kb X B) σ (ρ.set i none) F (upd (upd H c (.lst [.ref b])) b (.lst (ws ++ [.non]))) (fun k => if k = i then [] else fp k) := g0.step (Same.refl F) (fun d x z => by
                  have n1 : d ≠ b := ne_of_none z y0
                  have n2 : d ≠ c := ne_of_none (g.same d x z) nc
                  rw [upd_ne n1, upd_ne n2]; exact g.same d x z) (fun d x ⟨k, m⟩ z => by
                  have m : d ∈ (if k = i then [] else fp k) := m
                  by_cases w : k = i
                  · rw [if_pos w] at m; simp at m
                  · rw [if_neg w] at m
                    have n1 : d ≠ b := by rintro rfl; exact fa k w d gb.2 m
                    have n2 : d ≠ c := ne_of_none z nc
                    rw [upd_ne n1, upd_ne n2]; exact z) (fun d ⟨k, m⟩ => g0.df k d m)
              have hA : ∃ vs2, (upd (upd H c (.lst [.ref b])) b (.lst (ws ++ [.non]))) a = some (.lst vs2) ∧ vs2.length ≤ ds.length + 2 := by
                by_cases w : a = b
                · subst w
                  have : ws = .ref a :: vs' := by have := gb.1.symm.trans ga.1; cases this; rfl
                  refine ⟨_, upd_same, ?_⟩
                  rw [this, List.length_append, List.length_cons, List.length_singleton, l1]
                  omega
                · refine ⟨_, by rw [upd_ne w, upd_ne (Ne.symm nca)]; exact ga.1, ?_⟩
                  rw [List.length_cons, l1]
                  omega
              obtain ⟨vs2, hA1, hA2⟩ := hA
              have g2 := g1.alter (i := i) (o := .jk (ds.length + 2)) (lo := [a]) hv (.jk hA1 hA2) (by simp) (fun d m => by
                simp at m
                subst m
                refine ⟨z0, fun k n m => ?_⟩
                have m : d ∈ (if k = i then [] else fp k) := m
                rw [if_neg n] at m
                exact fa k n d ga.2 m)
              rw [List.set_set] at g2
              have g3 := (g2.drop j).other (w := some (.ref b)) set_none
              refine ⟨_, F, _, g3, ⟨Same.refl F, fun d x n z => ?_, fun d x z => ?_, fun d z => ?_, fun d x z => .inl z⟩, fun k hk => List.getElem?_set_ne fun z : j = k => hP (by rw [z]; exact hk), q⟩
              · have n1 : d ≠ b := by rintro rfl; exact n ⟨i, by rw [hlf]; exact gb.2⟩
                have n2 : d ≠ c := ne_of_none z nc
                rw [upd_ne n1, upd_ne n2]; exact z
              · by_cases w : d = b
                · subst w; exact ⟨_, upd_same⟩
                · exact ⟨x, by rw [upd_ne w]; exact same_upd nc d x z⟩
              · rcases if_in z with z | z
                · simp at z
                · rcases if_in z with z | z
                  · simp at z; subst z; exact .inl ⟨i, by rw [hlf]; exact ga.2⟩
                  · rcases if_in z with z | z
                    · simp at z
                    · exact .inl z
  · exact q.elim
end
end Pl
/-! The pure layer, part 11: the law is called where no repr is under way. -/
namespace Pl
open PySem PySem.Spec L2 PyProof.Rows

section
variable {P : Program} {w : World} {K : PySem.W.Frag} {mg mb : Str → Option Value} {k : Nat} {fa a : Addr} {fd : FuncData} {x : Str} {C : Con} {s₁ : Shared} {vs : List Value} {ns : List Int}
abbrev scr (vs : List Value) : Obj := { cls := .type "list", data := .seq vs.toArray }
/-- what is tracked ahead of the call: the script at most, as it stands -/
structure Tame (K : PySem.W.Frag) (a : Addr) (vs : List Value) (ns : List Int) (H : Hp) : Prop where
  one : ∀ b u, H b = some u → b = a ∧ K.lookup a = none ∧ u = .frz (scr vs) (.lst (ns.map V.int))
  seq : SqL K H a (ns.map V.int)
theorem tame_of (KX : K.In s₁.heap) (ha : s₁.heap.get? a = some (scr vs)) (hi : IntsAre vs ns) (hl : ns.length ≤ sizeLine) : ∃ H, Tame K a vs ns H := by
  cases hk : K.lookup a with
  | none =>
    refine ⟨fun b => if b = a then some (.frz (scr vs) (.lst (ns.map V.int))) else none, ⟨fun b u z => ?_, .inl (.inr ⟨scr vs, if_pos rfl⟩)⟩⟩
    by_cases h : b = a
    · have z' := (if_pos h).symm.trans z
      exact ⟨h, hk, (Option.some.inj z').symm⟩
    · have z' := (if_neg h).symm.trans z
      cases z'
  | some o =>
    have e := KX a o hk
    rw [ha] at e
    cases e
    refine ⟨fun _ => none, ⟨fun b u z => ?_, .inr ⟨_, vs.toArray, _, hk, rfl, rfl, rfl, by rw [List.size_toArray, hi.length]; exact hl, by simpa using vals_ints hi⟩⟩⟩
    cases (show (none : Option HO) = some u from z)
theorem law_callG (KX : K.In s₁.heap) (hns : s₁.heap.Ns mainGlobals mg) (hb : s₁.heap.Ns builtinsNs mb) (hbb : ∀ x : Str, x ≠ "__name__" → mb x = bootBuiltins x) (hlim : s₁.heap.NoLimit) (hg : s₁.gens = #[])
    (ha : s₁.heap.get? a = some (scr vs)) (hi : IntsAre vs ns) (hl : ns.length ≤ sizeLine) (hr : Room k callerA) (F : ∀ base : Heap, K.In base → base.Ns mainGlobals mg → FnG P w K mg base k fa fd [x] (spOf K C)) (hbind : ∀ (s : Shared) (u : Value), BindsTo s fd ⟨[u], []⟩ [(x, u)])
    (hC : ∀ post : O → List O → Prop, (∀ os, post (.sh (.bool true)) os) → C [.sh (.list (ns.map .int))] post) :
    codeAny (model P w) callerA (.call (.ref fa) ⟨[.ref a], []⟩) (fun r s' => r = .ok (.ret (.bool true)) ∧ OldK s₁.heap s'.heap ∧ s'.os = s₁.os ∧ AllBare s'.gens) s₁ := by
  obtain ⟨H, T⟩ := tame_of KX ha hi hl
  have rv := vals_ints hi
  -- what stands in the base
  have put : ∀ {b : Addr} {o : Obj}, s₁.heap.get? b = some o → (b = a → H a = none) → (hidT s₁.heap H).get? b = some o := fun {b o} e n => hidT_get e (by
    cases q : H b with
    | none => rfl
    | some u =>
      obtain ⟨z, _⟩ := T.one b u q
      subst z
      rw [n rfl] at q; cases q)
  have dicts : ∀ {b : Addr} {m : Str → Option Value}, s₁.heap.Ns b m → (hidT s₁.heap H).Ns b m := fun {b m} ⟨o, es, ep, e, d, r⟩ => by
    refine ⟨o, es, ep, put e fun z => ?_, d, r⟩
    subst z
    rw [ha] at e
    cases e
    have d : Data.seq vs.toArray _ = Data.dict es ep := d
    cases d
  have hKb : K.In (hidT s₁.heap H) := fun b o e => put (KX b o e) fun z => by
    cases q : H a with
    | none => rfl
    | some u =>
      subst z
      rw [(T.one b u q).2.1] at e; cases e
  have hok : HOk P w H s₁.heap := fun b u z => by
    obtain ⟨rfl, _, rfl⟩ := T.one b u z
    exact ⟨ha, by rw [List.length_map]; exact hl, vs, _, rv, ha⟩
  have hM : Mod K mg (hidT s₁.heap H) := ⟨hKb, dicts hns, ⟨mb, dicts hb, hbb⟩, let ⟨mc, h1, h2⟩ := hlim; ⟨mc, dicts h1, h2⟩⟩
  have e0 : Env0 P w K mg (hidT s₁.heap H) callerA [] s₁ H := ⟨rfl, hM, fun b o e => of_hidT e, Nat.le_of_eq (hidT_size _ _), trivial, fun b hb => absurd (show b ∈ ([] : List Addr) from hb) (by simp), hok, .of_eq hg⟩
  have all : ∀ ns : List Int, DqAll ⟨K, H⟩ H (ns.map V.int) (ns.map .int) := fun ns => by
    induction ns with
    | nil => exact .nil
    | cons i r ih => exact .cons (.int i) ih
  have want : spOf K C [.ref a] H (fun v _ => v = .bl true) E0 := by
    refine ⟨H, H, _, [], fun r _ => r = .sh (.bool true), Same.refl _, Same.refl _, .cons (l := []) (.sh (.lst T.seq (all ns))) .nil, List.nodup_nil, fun b m => by simp at m, hC _ fun _ => rfl, fun r os' e v H' F' lr l' ro _ _ _ _ _ => ?_⟩
    subst e
    cases ro with
    | sh h => cases h; rfl
  refine codeAny_mono ((F _ hKb (dicts hns)).run callerA [] s₁ H ⟨[.ref a], []⟩ [.ref a] [.ref a] _ E0 hr rfl e0 (hbind s₁ (.ref a)) (.cons rfl .nil) want) fun r s' h => ?_
  cases r with
  | error e => exact False.elim h
  | ok fl =>
    cases fl with
    | next => exact False.elim h
    | brk => exact False.elim h
    | cont => exact False.elim h
    | ret u =>
      obtain ⟨v, H', os, bare, un, hok', r', q⟩ := h
      cases (show v = .bl true from q)
      cases (show u = Value.bool true from r')
      refine ⟨rfl, OldK.of_keep fun b o e => ?_, os, bare⟩
      cases q : H b with
      | none => exact un.keep b o e q (fun z => absurd (show b ∈ ([] : List Addr) from z) (by simp)) (by simp)
      | some u =>
        obtain ⟨rfl, _, rfl⟩ := T.one b u q
        obtain ⟨e1, _⟩ := hok b _ q
        obtain ⟨e2, _⟩ := hok' b _ (un.frzs b _ _ q)
        rw [e] at e1; cases e1
        exact e2
end
/-- what the head leaves, from the law's contract -/
theorem walk_G {l : PySem.W.OpenLaw} {n k : Nat} {q : Program} {loose : List Str} {XP : (Str → Option Value) → Heap → Prop} {YP : World → Heap → Prop} {d : DefRec} {K : Params → PySem.W.Frag} {C : Con} {x : Str}
    (hn : l.most = some n) (hn2 : n ≤ sizeLine) (hdf : d.params.defaults = []) (hr : Room k callerA)
    (hY : ∀ (w : World) (h : Heap), YP w h → (K w.params).In h)
    (F : ∀ (w : World) (mg : Str → Option Value) (fa : Addr) (h : Heap), (K w.params).In h → h.Ns mainGlobals mg → mg d.name = some (.ref fa) →
      ∃ fd : FuncData, (∀ (s : Shared) (u : Value), BindsTo s fd ⟨[u], []⟩ [(x, u)]) ∧
        ∀ base : Heap, (K w.params).In base → base.Ns mainGlobals mg → FnG l.prog w (K w.params) mg base k fa fd [x] (spOf (K w.params) C))
    (hC : ∀ (ns : List Int) (post : O → List O → Prop), ns.length ≤ n → (∀ z ∈ ns, Builtin.Int.intBits z ≤ 1048576) → (∀ os, post (.sh (.bool true)) os) → C [.sh (.list (ns.map .int))] post) :
    PySem.W.WalkO q loose XP YP l.row.toRowW d [] (fun f vs => PySem.call f vs) := by
  refine Att.attach_callB hn hdf fun w s₀ s₁ mg mb fa o pm cd doc a vs ns G Y ho hd hcd hmg hobj hints hlen hbits hg => ?_
  obtain ⟨fd, hb, hF⟩ := F w mg fa _ (hY w _ Y) G.T.g hmg
  exact law_callG (hY w _ Y) G.T.g G.T.b G.T.builtins G.T.nolimit hg hobj hints (Nat.le_trans hlen hn2) hr hF hb fun post hp => hC ns post hlen hbits hp
end Pl
/-! The pure layer, part 12: int(..), tuple(..), min(..), max(..) of lists. -/
namespace Pl
open PySem PySem.Spec L2

/-! ### int(x), tuple(x) -/
def pInt : PN := fun ds Q => match ds with
  | [.int i] => Q (.sh (.int i))
  | [.bool b] => Q (.sh (.int (if b then 1 else 0)))
  | _ => False
theorem s_int1 {K : Kb} : OpNS K (fun xs H Q => (∃ i, xs = [V.int i] ∧ Q (.int i) H) ∨ ∃ k, xs = [V.bl k] ∧ Q (.int (if k then 1 else 0)) H) pInt := by
  intro F H vs ds Q R s rv q k
  unfold pInt at q
  split at q
  · obtain ⟨v, rfl, r⟩ := rv.one
    cases r.int
    exact .inl ⟨_, rfl, k _ _ (fin_sh s (.int _) q)⟩
  · obtain ⟨v, rfl, r⟩ := rv.one
    cases r.bool
    exact .inr ⟨_, rfl, k _ _ (fin_sh s (.int _) q)⟩
  · exact q.elim
def pTuple : PN := fun ds Q => match ds with
  | [.list xs] => Q (.sh (.tuple xs))
  | [.tuple xs] => Q (.sh (.tuple xs))
  | _ => False
theorem s_tuple {K : Kb} : OpNS K (fun xs H Q => ∃ p ys, xs = [V.ref p] ∧ ((SqL K.K H p ys ∧ ∀ l, H l = none → Q (.ref l) (upd H l (.tup ys))) ∨ (SqT K.K H p ys ∧ Q (.ref p) H))) pTuple := by
  intro F H vs ds Q R s rv q k
  unfold pTuple at q
  split at q
  · obtain ⟨v, rfl, r⟩ := rv.one
    obtain ⟨a, vs, rfl, h1, h2⟩ := r.list s
    exact ⟨a, vs, rfl, .inl ⟨h1, fun p n => k _ _ (fin_tup s n h2 q)⟩⟩
  · obtain ⟨v, rfl, r⟩ := rv.one
    have rd := r.tupD
    obtain ⟨a, vs, rfl, h1, h2⟩ := r.tup s
    exact ⟨a, vs, rfl, .inr ⟨h1, k _ _ (fin_sh s rd q)⟩⟩
  · exact q.elim

/-! ### min(xs), max(xs): the item itself -/
def rMinD (K : PySem.W.Frag) : List V → Hp → VK → Prop := fun xs H Q => ∃ a vs d ds, xs = [.ref a] ∧ SqL K H a vs ∧ DpAll K H vs (d :: ds) ∧ PySem.W.AlikeAll (d :: ds) ∧ PyData.depthAll (d :: ds) ≤ 64 ∧ ∀ (i : Nat) v, vs[i]? = some v → (d :: ds)[i]? = some (PySem.W.minD d ds) → Q v H
def rMaxD' (K : PySem.W.Frag) : List V → Hp → VK → Prop := fun xs H Q => ∃ a vs d ds, xs = [.ref a] ∧ SqL K H a vs ∧ DpAll K H vs (d :: ds) ∧ PySem.W.AlikeAll (d :: ds) ∧ PyData.depthAll (d :: ds) ≤ 64 ∧ ∀ (i : Nat) v, vs[i]? = some v → (d :: ds)[i]? = some (PySem.W.maxD d ds) → Q v H
theorem minD_mem (d : PyData) : ∀ ds : List PyData, PySem.W.minD d ds ∈ d :: ds := fun ds => by
  have go : ∀ (ds : List PyData) (x : PyData), x ∈ d :: ds ∨ True → (ds.foldl (fun a y => if PySem.W.dataLt y a then y else a) x = x ∨ ds.foldl (fun a y => if PySem.W.dataLt y a then y else a) x ∈ ds) := by
    intro ds
    induction ds with
    | nil => intro x _; exact .inl rfl
    | cons y r ih =>
      intro x _
      rw [List.foldl_cons]
      rcases ih (if PySem.W.dataLt y x then y else x) (.inr trivial) with h | h
      · rw [h]
        by_cases c : PySem.W.dataLt y x = true
        · rw [if_pos c]; exact .inr (List.mem_cons_self ..)
        · rw [if_neg c]; exact .inl rfl
      · exact .inr (List.mem_cons_of_mem _ h)
  rcases go ds d (.inr trivial) with h | h
  · unfold PySem.W.minD; rw [h]; exact List.mem_cons_self ..
  · exact List.mem_cons_of_mem _ h
theorem maxD_mem (d : PyData) : ∀ ds : List PyData, PySem.W.maxD d ds ∈ d :: ds := fun ds => by
  have go : ∀ (ds : List PyData) (x : PyData), (ds.foldl (fun a y => if PySem.W.dataLt a y then y else a) x = x ∨ ds.foldl (fun a y => if PySem.W.dataLt a y then y else a) x ∈ ds) := by
    intro ds
    induction ds with
    | nil => intro x; exact .inl rfl
    | cons y r ih =>
      intro x
      rw [List.foldl_cons]
      rcases ih (if PySem.W.dataLt x y then y else x) with h | h
      · rw [h]
        by_cases c : PySem.W.dataLt x y = true
        · rw [if_pos c]; exact .inr (List.mem_cons_self ..)
        · rw [if_neg c]; exact .inl rfl
      · exact .inr (List.mem_cons_of_mem _ h)
  rcases go ds d with h | h
  · unfold PySem.W.maxD; rw [h]; exact List.mem_cons_self ..
  · exact List.mem_cons_of_mem _ h
section
variable {X : Cx} {B : Hp}
theorem all_reads {pins : List (Addr × Obj)} {σ : L2.St} {H : Hp} {s : Shared} (I : Inv X pins σ H s) : ∀ {vs : List V} {us : List Value} {ds : List PyData}, Vals vs us → DpAll X.K H vs ds → ∃ as, ReadsAll s.heap us ds as
  | _, _, _, .nil, .nil => ⟨_, .nil⟩
  | _, _, _, .cons r t, .cons h u => by
    obtain ⟨as, r1⟩ := Dp.reads I _ _ _ h r
    obtain ⟨bs, r2⟩ := all_reads I t u
    exact ⟨_, .cons r1 r2⟩
theorem dpAll_at {K : PySem.W.Frag} {H : Hp} : ∀ {vs : List V} {ds : List PyData} {i : Nat} {v : V}, DpAll K H vs ds → vs[i]? = some v → ∃ d, ds[i]? = some d ∧ Dp K H v d
  | [], [], _, _, _, e => by simp at e
  | v :: vs, d :: ds, 0, v', .cons h1 h2, e => by
    have e' : v = v' := Option.some.inj e
    subst e'
    exact ⟨d, rfl, h1⟩
  | v :: vs, d :: ds, i + 1, v', .cons h1 h2, e => dpAll_at (i := i) h2 e
theorem call_minD (px : PX X) : CallR X (.builtin "min") (rMinD X.K) := by
  intro pins s σ H xs us Q I r h
  obtain ⟨a, vs, d, ds, rfl, hs, hd, ha, hz, q⟩ := h
  obtain ⟨its, rv, hl, hlen⟩ := I.list hs
  rw [Vals.ref1 r]
  obtain ⟨as, ra⟩ := all_reads I rv hd
  have hu := px.hu
  refine PySem.W.min_list_data (I.ok.hd px.calm) hl.isList (by simpa using ra) ha (by omega) fun i u h' tk bs hi hr hk => ?_
  obtain ⟨v, hv, rvu⟩ : ∃ v, vs[i]? = some v ∧ RelV v u := by
    have hi : its[i]? = some u := by simpa using hi
    have hl := rv.length
    have : i < vs.length := by rw [hl]; exact (List.getElem?_eq_some_iff.mp hi).1
    obtain ⟨u', e1, e2⟩ := rv.get (List.getElem?_eq_getElem this)
    rw [hi] at e1; cases e1
    exact ⟨_, List.getElem?_eq_getElem this, e2⟩
  obtain ⟨d', ed, hd'⟩ := dpAll_at hd hv
  have I2 : Inv X pins σ H { s with heap := h', toks := tk } := I.kept hk
  obtain ⟨cs, rc⟩ := Dp.reads I2 _ _ _ hd' rvu
  have em : d' = PySem.W.minD d ds := PySem.W.alike_unique d' _ u cs bs (ha.1 _ (List.mem_of_getElem? ed) _ (minD_mem d ds)) rc hr
  subst em
  exact ⟨v, H, I2, rvu, q i v hv ed⟩
theorem call_maxD (px : PX X) : CallR X (.builtin "max") (rMaxD' X.K) := by
  intro pins s σ H xs us Q I r h
  obtain ⟨a, vs, d, ds, rfl, hs, hd, ha, hz, q⟩ := h
  obtain ⟨its, rv, hl, hlen⟩ := I.list hs
  rw [Vals.ref1 r]
  obtain ⟨as, ra⟩ := all_reads I rv hd
  have hu := px.hu
  refine PySem.W.max_list_data (I.ok.hd px.calm) hl.isList (by simpa using ra) ha (by omega) fun i u h' tk bs hi hr hk => ?_
  obtain ⟨v, hv, rvu⟩ : ∃ v, vs[i]? = some v ∧ RelV v u := by
    have hi : its[i]? = some u := by simpa using hi
    have hl := rv.length
    have : i < vs.length := by rw [hl]; exact (List.getElem?_eq_some_iff.mp hi).1
    obtain ⟨u', e1, e2⟩ := rv.get (List.getElem?_eq_getElem this)
    rw [hi] at e1; cases e1
    exact ⟨_, List.getElem?_eq_getElem this, e2⟩
  obtain ⟨d', ed, hd'⟩ := dpAll_at hd hv
  have I2 : Inv X pins σ H { s with heap := h', toks := tk } := I.kept hk
  obtain ⟨cs, rc⟩ := Dp.reads I2 _ _ _ hd' rvu
  have em : d' = PySem.W.maxD d ds := PySem.W.alike_unique d' _ u cs bs (ha.1 _ (List.mem_of_getElem? ed) _ (maxD_mem d ds)) rc hr
  subst em
  exact ⟨v, H, I2, rvu, q i v hv ed⟩
end
def pMin : PN := fun ds Q => match ds with
  | [.list (d :: ds)] => PySem.W.AlikeAll (er d :: ds.map er) ∧ PyData.depthAll (er d :: ds.map er) ≤ 64 ∧ ∀ x ∈ d :: ds, er x = PySem.W.minD (er d) (ds.map er) → Q (.sh x)
  | _ => False
def pMax : PN := fun ds Q => match ds with
  | [.list (d :: ds)] => PySem.W.AlikeAll (er d :: ds.map er) ∧ PyData.depthAll (er d :: ds.map er) ≤ 64 ∧ ∀ x ∈ d :: ds, er x = PySem.W.maxD (er d) (ds.map er) → Q (.sh x)
  | _ => False
theorem DqAll.getV {K : Kb} {F : Hp} : ∀ {vs : List V} {ds : List D} {i : Nat} {v : V}, DqAll K F vs ds → vs[i]? = some v → ∃ d, ds[i]? = some d ∧ Dq K F v d
  | [], [], _, _, _, e => by simp at e
  | v :: vs, d :: ds, 0, v', .cons h1 h2, e => by
    have e' : v = v' := Option.some.inj e
    subst e'
    exact ⟨d, rfl, h1⟩
  | v :: vs, d :: ds, i + 1, v', .cons h1 h2, e => DqAll.getV (i := i) h2 e
theorem s_min {K : Kb} : OpNS K (rMinD K.K) pMin := by
  intro F H vs ds Q R s rv q k
  unfold pMin at q
  split at q
  · rename_i d ds
    obtain ⟨v, rfl, r⟩ := rv.one
    obtain ⟨a, vs, rfl, h1, h2⟩ := r.list s
    refine ⟨a, vs, er d, ds.map er, rfl, h1, (h2.mono s).dp, q.1, q.2.1, fun i v hv he => ?_⟩
    obtain ⟨x, ex, hx⟩ := h2.getV hv
    refine k _ _ (fin_sh s hx (q.2.2 x (List.mem_of_getElem? ex) ?_))
    have e2 : ((d :: ds).map er)[i]? = some (er x) := by rw [List.getElem?_map, ex]; rfl
    rw [List.map_cons, he] at e2
    exact (Option.some.inj e2).symm
  · exact q.elim
theorem s_max {K : Kb} : OpNS K (rMaxD' K.K) pMax := by
  intro F H vs ds Q R s rv q k
  unfold pMax at q
  split at q
  · rename_i d ds
    obtain ⟨v, rfl, r⟩ := rv.one
    obtain ⟨a, vs, rfl, h1, h2⟩ := r.list s
    refine ⟨a, vs, er d, ds.map er, rfl, h1, (h2.mono s).dp, q.1, q.2.1, fun i v hv he => ?_⟩
    obtain ⟨x, ex, hx⟩ := h2.getV hv
    refine k _ _ (fin_sh s hx (q.2.2 x (List.mem_of_getElem? ex) ?_))
    have e2 : ((d :: ds).map er)[i]? = some (er x) := by rw [List.getElem?_map, ex]; rfl
    rw [List.map_cons, he] at e2
    exact (Option.some.inj e2).symm
  · exact q.elim
section
variable {X : Cx} {B : Hp} {e : Expr} {ta : TPx} {p pos : Pos}
theorem jo_int (hg : Gl X "int") (hm : X.mg "int" = none) (h : JX X B e ta) (he : starEach [e] X.env = (false, eval e X.env) :: starEach [] X.env := by rfl) (hpl : (backTo pos (starEach [] X.env)).any (·.1) = false := by rfl) :
    JO X B (.Call (.Name "int" p) [e] [] pos) (oN pInt (s1 ta)) := jo_N (fun h => pe_callTy call_int1 hg hm PyProof.Rows.boot_int h (by decide) (by decide) he hpl) s_int1 (js_1 h he)
theorem jo_tuple (hg : Gl X "tuple") (hm : X.mg "tuple" = none) (h : JX X B e ta) (he : starEach [e] X.env = (false, eval e X.env) :: starEach [] X.env := by rfl) (hpl : (backTo pos (starEach [] X.env)).any (·.1) = false := by rfl) :
    JO X B (.Call (.Name "tuple" p) [e] [] pos) (oN pTuple (s1 ta)) := jo_N (fun h => pe_callTy call_tuple_of hg hm PyProof.Rows.boot_tuple h (by decide) (by decide) he hpl) s_tuple (js_1 h he)
theorem jo_min (px : PX X) (hg : Gl X "min") (hm : X.mg "min" = none) (h : JX X B e ta) (he : starEach [e] X.env = (false, eval e X.env) :: starEach [] X.env := by rfl) (hpl : (backTo pos (starEach [] X.env)).any (·.1) = false := by rfl) :
    JO X B (.Call (.Name "min" p) [e] [] pos) (oN pMin (s1 ta)) := jo_N (fun h => pe_callB (call_minD px) hg hm PyProof.Rows.boot_min h (by decide) (by decide) he hpl) s_min (js_1 h he)
theorem jo_max (px : PX X) (hg : Gl X "max") (hm : X.mg "max" = none) (h : JX X B e ta) (he : starEach [e] X.env = (false, eval e X.env) :: starEach [] X.env := by rfl) (hpl : (backTo pos (starEach [] X.env)).any (·.1) = false := by rfl) :
    JO X B (.Call (.Name "max" p) [e] [] pos) (oN pMax (s1 ta)) := jo_N (fun h => pe_callB (call_maxD px) hg hm PyProof.Rows.boot_max h (by decide) (by decide) he hpl) s_max (js_1 h he)
end
end Pl
/-! The pure layer, part 13: dicts that are written; a walk over their keys. -/
namespace Pl
open PySem PySem.Spec L2

def hasK (ks : List Key) (k : Key) : Bool := ks.any fun x => decide (x = k)
def dputK (ks : List Key) (k : Key) : List Key := if hasK ks k = true then ks else ks ++ [k]
def dputD (ks : List Key) (ds : List D) (k : Key) (d : D) : List D := if hasK ks k = true then List.zipWith (fun k' d' => if k' = k then d else d') ks ds else ds ++ [d]
def unkey : Key → D
  | .inl i => .int i
  | .inr z => .str z
theorem unkey_dq {K : Kb} {F : Hp} (k : Key) : Dq K F (kV k) (unkey k) := by
  cases k with
  | inl i => exact .int i
  | inr z => exact .str z
theorem put_is {K : Kb} {F : Hp} {kvs : List (Key × V)} {ds : List D} {k : Key} {v : V} {d : D} (h : DqAll K F (kvs.map (·.2)) ds) (hv : Dq K F v d) : (putK kvs k v).map (·.1) = dputK (kvs.map (·.1)) k ∧ DqAll K F ((putK kvs k v).map (·.2)) (dputD (kvs.map (·.1)) ds k d) := by
  have any : (kvs.any fun kv => decide (kv.1 = k)) = hasK (kvs.map (·.1)) k := by
    unfold hasK
    rw [List.any_map]; rfl
  unfold putK dputK dputD
  rw [any]
  by_cases c : hasK (kvs.map (·.1)) k = true
  · rw [if_pos c, if_pos c, if_pos c]
    refine ⟨?_, ?_⟩
    · rw [List.map_map]
      refine List.map_congr_left fun p _ => ?_
      show (if p.1 = k then (p.1, v) else p).1 = p.1
      split <;> rfl
    · clear c any
      induction kvs generalizing ds with
      | nil => cases h; exact .nil
      | cons p r ih =>
        cases h with
        | cons h1 h2 =>
          refine .cons ?_ (ih h2)
          show Dq K F (if p.1 = k then (p.1, v) else p).2 (if p.1 = k then d else _)
          by_cases e : p.1 = k
          · rw [if_pos e, if_pos e]; exact hv
          · rw [if_neg e, if_neg e]; exact h1
  · rw [if_neg c, if_neg c, if_neg c]
    refine ⟨by rw [List.map_append]; rfl, ?_⟩
    rw [List.map_append]
    exact h.append (.one hv)
/-- keys and values of an own dict that may be written -/
def dwk : Option (Option O) → Option (List Key × List D)
  | some (some (.fd ks ds)) => some (ks, ds)
  | _ => none
section
variable {K : Kb} {σ : L2.St} {ρ : Ev} {F H : Hp} {fp : Nat → List Addr}
theorem Good.dwk (g : Good K σ ρ F H fp) {i : Nat} {ks : List Key} {ds : List D} (e : dwk ρ[i]? = some (ks, ds)) : ∃ a kvs, σ[i]? = some (some (.ref a)) ∧ H a = some (.dK kvs) ∧ a ∈ fp i ∧ kvs.map (·.1) = ks ∧ DqAll K F (kvs.map (·.2)) ds := by
  cases q : ρ[i]? with
  | none => rw [q] at e; cases e
  | some w =>
    cases w with
    | none => rw [q] at e; cases e
    | some o =>
      obtain ⟨v, hv, r⟩ := g.loc i o q
      rw [q] at e
      generalize hl : fp i = l at r
      cases o with
      | fd ks' ds' => cases e; cases r with | fd h1 h2 h3 => exact ⟨_, _, hv, h1, by simp, h2, h3⟩
      | _ => cases e
/-- the object that the name i owns at one address is changed -/
theorem Good.wobj (g : Good K σ ρ F H fp) {i : Nat} {a : Addr} {u u' : HO} {o' : O} (hv : σ[i]? = some (some (.ref a))) (h : H a = some u) (hf : a ∈ fp i) (r : RO K F (upd H a u') (.ref a) o' [a]) :
    ∃ fp', Good K σ (ρ.set i (some o')) F (upd H a u') fp' ∧ Ext F H (inL fp) F (upd H a u') (inL fp') := by
  have nF : F a = none := g.df i a hf
  have nj : ∀ j, j ≠ i → a ∉ fp j := fun j n m => g.dj j i a n m hf
  have g0 := g.drop i
  have g1 : Good K σ (ρ.set i none) F (upd H a u') (fun j => if j = i then [] else fp j) := g0.step (Same.refl F) (fun b x z => by rw [upd_ne (ne_of_none z nF)]; exact g.same b x z)
    (fun b x ⟨j, m⟩ z => by
      have m : b ∈ (if j = i then [] else fp j) := m
      have n : b ≠ a := by
        rintro rfl
        by_cases w : j = i
        · rw [if_pos w] at m; simp at m
        · rw [if_neg w] at m; exact nj j w m
      rw [upd_ne n]; exact z) (fun b ⟨j, m⟩ => g0.df j b m)
  have g2 := g1.alter (i := i) (o := o') (lo := [a]) hv r (by simp) (fun b m => by
    simp at m
    subst m
    refine ⟨nF, fun j n m => ?_⟩
    have m : b ∈ (if j = i then [] else fp j) := m
    rw [if_neg n] at m
    exact nj j n m)
  rw [List.set_set] at g2
  refine ⟨_, g2, ⟨Same.refl F, fun b x n z => ?_, fun b x z => ?_, fun b z => ?_, fun b x z => .inl z⟩⟩
  · have n' : b ≠ a := by rintro rfl; exact n ⟨i, hf⟩
    rw [upd_ne n']; exact z
  · by_cases w : b = a
    · subst w; exact ⟨_, upd_same⟩
    · exact ⟨x, by rw [upd_ne w]; exact z⟩
  · rcases if_in z with z | z
    · simp at z; subst z; exact .inl ⟨i, hf⟩
    · rcases if_in z with z | z
      · simp at z
      · exact .inl z
end
/-- x[e] = v, x a name's dict -/
def zDput (i : Nat) (t tk : TPe) : TPS := fun D ρ => t ρ fun d ρ1 => match dwk ρ1[i]? with
  | some _ => tk ρ1 fun kd ρ2 => match keyD kd, dwk ρ2[i]? with
    | some k, some (ks, ds) => ks.length < sizeLine ∧ D.nx (ρ2.set i (some (.fd (dputK ks k) (dputD ks ds k d))))
    | _, _ => False
  | none => False
/-- {} -/
def oDnew : TPo := fun ρ Q => Q (.fd [] []) ρ
/-- x.get(e, f) -/
def eDget2 (i : Nat) (t u : TPe) : TPe := fun ρ Q => match dkv ρ[i]? with
  | some _ => t ρ fun kd ρ1 => u ρ1 fun d ρ2 => match keyD kd, dkv ρ2[i]? with
    | some k, some (ks, ds) => Q ((assoc ks ds k).getD d) ρ2
    | _, _ => False
  | none => False
/-- e in x, e not in x -/
def oDin (n : Bool) (i : Nat) (t : TPe) : TPo := fun ρ Q => t ρ fun kd ρ1 => match keyD kd, dkv ρ1[i]? with
  | some k, some (ks, ds) => Q (.sh (.bool (if n then !(assoc ks ds k).isSome else (assoc ks ds k).isSome))) ρ1
  | _, _ => False
section
variable {X : Cx} {B : Hp} {P : List Nat} {x : Str} {e e2 ix : Expr} {i : Nat} {t tk u : TPe} {npos apos cpos pos : Pos}
theorem js_dput (px : PX X) (hp : PE X (.Name x npos) (tVar i)) (h : JE X B e t) (hk : JE X B ix tk) (hs : swapsWith e (some (.Subscript (.Name x npos) ix apos)) pos.line X.env = pure false := by rfl) :
    JSt X B P (.Assign [.Subscript (.Name x npos) ix apos] e pos) (zDput i t tk) := by
  refine ⟨fun σ ρ F H fp D g q => wS_of (ps_dput (by have := px.hu; omega) hp pe_w pe_w hs) (wE_mono (h.run σ ρ F H fp _ g q) fun w H1 ⟨d, ρ1, F1, fp1, x1, g1, e1, q1⟩ => ?_)⟩
  dsimp only at q1
  split at q1
  · rename_i w0 ed
    obtain ⟨ks0, ds0⟩ := w0
    obtain ⟨a, kvs, hv, ha, hf, hk1, hd⟩ := g1.dwk ed
    refine ⟨.ref a, hv, wE_mono (hk.run σ ρ1 F1 H1 fp1 _ g1 q1) fun y H2 ⟨kd, ρ2, F2, fp2, x2, g2, e2, q2⟩ => ?_⟩
    dsimp only at q2
    split at q2
    · rename_i k ks ds ek ed2
      obtain ⟨a2, kvs2, hv2, ha2, hf2, hk2, hd2⟩ := g2.dwk ed2
      rw [hv] at hv2; cases hv2
      obtain ⟨z1, z2⟩ := put_is (k := k) hd2 (x1.mono e2.f)
      rw [hk2] at z1 z2
      obtain ⟨fp', g3, e3⟩ := g2.wobj (u' := .dK (putK kvs2 k w)) hv ha2 hf2 (.fd upd_same z1 z2)
      have hl : kvs2.length < sizeLine := by have := congrArg List.length hk2; rw [List.length_map] at this; omega
      rw [keyV x2 ek]
      exact ⟨a, _, rfl, .k ha2 hl, _, F2, fp', g3, (e1.trans e2).trans e3, fun _ _ => rfl, q2.2⟩
    · exact q2.elim
  · exact q1.elim
theorem jo_dnew : JO X B (.Dict [] [] pos) oDnew := by
  refine ⟨fun σ ρ F H fp Q g q => wE_of pe_dnewK fun p n => ?_⟩
  have nx : Nx F H F (upd H p (.dK [])) [p] := ⟨Same.refl F, same_upd n, g.same.trans (same_upd n), fun _ _ z => .inl z, fun a m => by simp at m; subst m; exact ⟨n, g.same.free n⟩, by simp⟩
  exact ⟨.fd [] [], ρ, F, fp, [p], .fd upd_same rfl .nil, by simp, g.nxOut nx, g.nx nx, g.nxExt nx, q⟩
theorem je_dget2 (px : PX X) (hp : PE X (.Name x npos) (tVar i)) (h : JE X B e t) (h2 : JE X B e2 u) (m : M2 X (.Name x npos) "get" apos e e2 cpos := by exact ⟨rfl, rfl, rfl, rfl⟩) : JE X B (.Call (.Attribute (.Name x npos) "get" apos) [e, e2] [] cpos) (eDget2 i t u) := by
  refine ⟨fun σ ρ F H fp Q g q => wE_of (pe_dget2 (by have := px.hu; omega) hp pe_w pe_w m) ?_⟩
  unfold eDget2 at q
  split at q
  · rename_i w e0
    obtain ⟨ks0, ds0⟩ := w
    obtain ⟨a, kvs, hv, hr, hk, hd⟩ := g.dkv e0
    refine ⟨.ref a, hv, a, rfl, .inl ⟨kvs, hr⟩, wE_mono (h.run σ ρ F H fp _ g q) fun w H1 ⟨kd, ρ1, F1, fp1, x1, g1, e1, q1⟩ => wE_mono (h2.run σ ρ1 F1 H1 fp1 _ g1 q1) fun w2 H2 ⟨d, ρ2, F2, fp2, x2, g2, e2, q2⟩ => ?_⟩
    dsimp only at q2
    split at q2
    · rename_i k ks ds ek ed
      obtain ⟨a1, kvs1, hv1, hr1, hk1, hd1⟩ := g2.dkv ed
      rw [hv] at hv1; cases hv1
      refine ⟨valV kvs1 k, .inl ⟨kvs1, k, hr1, keyV (x1.mono e2.f) ek, rfl⟩, ?_⟩
      rcases assoc_val (k := k) hd1 with ⟨z1, z2⟩ | ⟨v, d', z1, z2, z3⟩
      · rw [hk1] at z2
        rw [z2] at q2
        rw [z1]
        exact ⟨d, ρ2, F2, fp2, x2, g2, e1.trans e2, q2⟩
      · rw [hk1] at z2
        rw [z2] at q2
        rw [z1]
        exact ⟨d', ρ2, F2, fp2, z3, g2, e1.trans e2, q2⟩
    · exact q2.elim
  · exact q.elim
end
end Pl
/-! The pure layer, part 14: in a dict; over a dict's keys. -/
namespace Pl
open PySem PySem.Spec L2
section
variable {X : Cx} {B : Hp} {x : Str} {e : Expr} {i : Nat} {t : TPe} {npos pos : Pos}
theorem din_core (hp : PE X (.Name x npos) (tVar i)) (h : JE X B e t) (n : Bool) {σ : L2.St} {ρ : Ev} {F H : Hp} {fp : Nat → List Addr} {Q : O → Ev → Prop} {R : VK} (g : Good (kb X B) σ ρ F H fp) (q : oDin n i t ρ Q) (k : ∀ v H', QO (kb X B) σ F H (inL fp) Q v H' → R v H') :
    wE X e σ H fun y H1 => tVar i σ H1 fun x H2 => ∃ a o, x = .ref a ∧ DGet H2 a y o ∧ R (.bl (if n then !o.isSome else o.isSome)) H2 := by
  refine wE_mono (h.run σ ρ F H fp _ g q) fun y H1 ⟨kd, ρ1, F1, fp1, x1, g1, e1, q1⟩ => ?_
  dsimp only at q1
  split at q1
  · rename_i kk ks ds ek ed
    obtain ⟨a, kvs, hv, hr, hk, hd⟩ := g1.dkv ed
    refine ⟨.ref a, hv, a, valV kvs kk, rfl, .inl ⟨kvs, kk, hr, keyV x1 ek, rfl⟩, k _ _ ?_⟩
    have es : (valV kvs kk).isSome = (assoc ks ds kk).isSome := by
      rcases assoc_val (k := kk) hd with ⟨z1, z2⟩ | ⟨v, d', z1, z2, z3⟩
      · rw [hk] at z2; rw [z1, z2]; rfl
      · rw [hk] at z2; rw [z1, z2]; rfl
    rw [es]
    exact (g1.fin (fin_sh g1.same (.bl _) q1)).ext e1
  · exact q1.elim
theorem jo_din (px : PX X) (h : JE X B e t) (hp : PE X (.Name x npos) (tVar i)) (hm : behindInMarks .In (.Name x npos) = false := by with_unfolding_all rfl) : JO X B (.Compare e [.In] [.Name x npos] pos) (oDin false i t) :=
  ⟨fun σ ρ F H fp Q g q => wE_of (pe_cmp (pc_din (by have := px.hu; omega) pe_w hp) hm) (din_core hp h false g q fun _ _ z => z)⟩
theorem jo_dnin (px : PX X) (h : JE X B e t) (hp : PE X (.Name x npos) (tVar i)) (hm : behindInMarks .NotIn (.Name x npos) = false := by with_unfolding_all rfl) : JO X B (.Compare e [.NotIn] [.Name x npos] pos) (oDin true i t) :=
  ⟨fun σ ρ F H fp Q g q => wE_of (pe_cmp (pc_dnotin (by have := px.hu; omega) pe_w hp) hm) (din_core hp h true g q fun _ _ z => z)⟩
theorem jt_din (px : PX X) (h : JE X B e t) (hp : PE X (.Name x npos) (tVar i)) (hm : behindInMarks .In (.Name x npos) = false := by with_unfolding_all rfl) : JT X B (.Compare e [.In] [.Name x npos] pos) (bO (oDin false i t)) :=
  ⟨fun σ ρ F H fp Q g q => wT_of (pt_cmp (pc_din (by have := px.hu; omega) pe_w hp) hm) (din_core hp h false g q fun _ _ z => z.bool)⟩
theorem jt_dnin (px : PX X) (h : JE X B e t) (hp : PE X (.Name x npos) (tVar i)) (hm : behindInMarks .NotIn (.Name x npos) = false := by with_unfolding_all rfl) : JT X B (.Compare e [.NotIn] [.Name x npos] pos) (bO (oDin true i t)) :=
  ⟨fun σ ρ F H fp Q g q => wT_of (pt_cmp (pc_dnotin (by have := px.hu; omega) pe_w hp) hm) (din_core hp h true g q fun _ _ z => z.bool)⟩
end

/-! ### a walk over a dict's keys: it is written no more -/
theorem RO.fdInv {K : Kb} {F H : Hp} {v : V} {ks : List Key} {ds : List D} {l : List Addr} (r : RO K F H v (.fd ks ds) l) : ∃ a kvs, v = .ref a ∧ l = [a] ∧ H a = some (.dK kvs) ∧ kvs.map (·.1) = ks ∧ DqAll K F (kvs.map (·.2)) ds := by
  cases r with
  | fd h1 h2 h3 => exact ⟨_, _, rfl, rfl, h1, h2, h3⟩
theorem RO.frInv {K : Kb} {F H : Hp} {v : V} {ks : List Key} {ds : List D} {l : List Addr} (r : RO K F H v (.fr ks ds) l) : ∃ a o kvs, v = .ref a ∧ F a = some (.frz o (.dK kvs)) ∧ kvs.map (·.1) = ks ∧ DqAll K F (kvs.map (·.2)) ds := by
  cases r with
  | fr h1 h2 h3 => exact ⟨_, _, _, rfl, h1, h2, h3⟩
def iKy (i : Nat) : TPi := fun ρ Q => match dkv ρ[i]? with
  | some (ks, ds) => Q (ks.map unkey) (ρ.set i (some (.fr ks ds)))
  | none => False
theorem feeds_keys {K : Kb} {F : Hp} {d : Addr} {o : Obj} {kvs : List (Key × V)} (h : F d = some (.frz o (.dK kvs))) : Feeds K (Itk d o kvs) ((kvs.map (·.1)).map unkey) F where
  stop := fun F2 H2 i e s l => ⟨s _ _ (e _ _ h), by rw [List.length_map, List.length_map] at l; exact l⟩
  go := fun F2 H2 i x e s q => by
    have := (List.getElem?_eq_some_iff.mp q).1
    rw [List.length_map, List.length_map] at this
    exact ⟨s _ _ (e _ _ h), this⟩
  yld := fun F2 H2 i x y H3 e s q z => by
    obtain ⟨rfl, k, v, hk, rfl⟩ := z
    rw [List.getElem?_map, List.getElem?_map, hk] at q
    cases q
    exact ⟨F2, unkey_dq k, .refl s⟩
section
variable {X : Cx} {B : Hp} {tg : Expr} {x : Str} {i : Nat} {npos : Pos}
theorem ji_keys (hp : PE X (.Name x npos) (tVar i)) : JI X B tg (.Name x npos) (iKy i) := by
  refine ⟨fun σ ρ F H fp Q g q pins s I => ?_⟩
  unfold iKy at q
  split at q
  · rename_i ks ds e0
    cases e : ρ[i]? with
    | none => rw [e] at e0; cases e0
    | some w0 =>
      cases w0 with
      | none => rw [e] at e0; cases e0
      | some o =>
        obtain ⟨v, hv, r⟩ := g.loc i o e
        rw [e] at e0
        generalize hl : fp i = l at r
        cases o with
        | fd ks' ds' =>
          cases e0
          obtain ⟨a, kvs, rfl, rfl, h1, h2, h3⟩ := r.fdInv
          · skip
            -- it is locked
            obtain ⟨od, I2⟩ := I.lock h1 True.intro
            have nF : F a = none := g.df i a (by rw [hl]; simp)
            have s1 : Same F (upd F a (.frz od (.dK kvs))) := fun b y z => by rw [upd_ne (ne_of_none z nF)]; exact z
            have s2 : Same (upd F a (.frz od (.dK kvs))) (upd H a (.frz od (.dK kvs))) := fun b y z => by
              by_cases w : b = a
              · subst w; rw [upd_same] at z; cases z; exact upd_same
              · rw [upd_ne w] at z; rw [upd_ne w]; exact g.same b y z
            have nj : ∀ j, j ≠ i → a ∉ fp j := fun j n m => g.dj j i a n m (by rw [hl]; simp)
            have g1 := (g.drop i).step s1 s2 (fun b y ⟨j, m⟩ z => by
              have m : b ∈ (if j = i then [] else fp j) := m
              have n : b ≠ a := by
                rintro rfl
                by_cases w : j = i
                · rw [if_pos w] at m; simp at m
                · rw [if_neg w] at m; exact nj j w m
              rw [upd_ne n]; exact z) (fun b ⟨j, m⟩ => by
              have m : b ∈ (if j = i then [] else fp j) := m
              by_cases w : j = i
              · rw [if_pos w] at m; simp at m
              · rw [if_neg w] at m
                have n : b ≠ a := by rintro rfl; exact nj j w m
                rw [upd_ne n]; exact g.df j b m)
            have g2 := g1.alter (i := i) (o := .fr ks ds) (lo := []) hv (.fr (o := od) upd_same h2 (h3.mono s1)) List.nodup_nil (fun b m => by simp at m)
            rw [List.set_set] at g2
            refine (pi_keys hp).run pins s σ (upd H a (.frz od (.dK kvs))) _ I2 ⟨.ref a, hv, a, od, rfl, .inl ⟨kvs, upd_same, ?_⟩⟩
            refine ⟨_, _, upd F a (.frz od (.dK kvs)), _, feeds_keys upd_same, g2, ⟨s1, fun b y n z => ?_, fun b y z => ?_, fun b z => ?_, fun b y z => ?_⟩, by rw [h2]; exact q⟩
            · have n' : b ≠ a := by rintro rfl; exact n ⟨i, by rw [hl]; simp⟩
              rw [upd_ne n']; exact z
            · by_cases w : b = a
              · subst w; exact ⟨_, upd_same⟩
              · exact ⟨y, by rw [upd_ne w]; exact z⟩
            · rcases if_in z with z | z
              · simp at z
              · rcases if_in z with z | z
                · simp at z
                · exact .inl z
            · by_cases w : b = a
              · subst w; exact .inr (.inl ⟨i, by rw [hl]; simp⟩)
              · rw [upd_ne w] at z; exact .inl z
        | fr ks' ds' =>
          cases e0
          obtain ⟨a, od, kvs, rfl, h1, h2, h3⟩ := r.frInv
          · skip
            refine (pi_keys hp).run pins s σ H _ I ⟨.ref a, hv, a, od, rfl, .inl ⟨kvs, g.same _ _ h1, ?_⟩⟩
            refine ⟨_, _, F, fp, feeds_keys h1, g, .refl, ?_⟩
            rw [h2]
            have : ρ.set i (some (.fr ks ds)) = ρ := set_id e
            rw [this] at q
            exact q
        | _ => cases e0
  · exact q.elim
end
end Pl
/-! The pure layer, part 15: len(d), sorted(d). -/
namespace Pl
open PySem PySem.Spec L2
section
variable {X : Cx} {B : Hp} {x : Str} {e : Expr} {i : Nat} {t : TPo} {npos p pos : Pos}
def rLenD : List V → Hp → VK → Prop := fun xs H Q => ∃ a kvs, xs = [.ref a] ∧ Rd H a (.dK kvs) ∧ Q (.int kvs.length) H
theorem call_lenD : CallR X (.builtin "len") rLenD := by
  intro pins s σ H xs us Q I r h
  obtain ⟨a, kvs, rfl, hd, q⟩ := h
  rw [Vals.ref1 r]
  exact d_len I hd fun t s' I' => ⟨.int kvs.length, H, I', ⟨t, rfl⟩, q⟩
/-- len(x), x a name's dict -/
def oDlen (i : Nat) : TPo := fun ρ Q => match dkv ρ[i]? with
  | some (ks, _) => Q (.sh (.int ks.length)) ρ
  | none => False
theorem jo_dlen (hg : Gl X "len") (hm : X.mg "len" = none) (hp : PE X (.Name x npos) (tVar i)) (he : starEach [.Name x npos] X.env = (false, eval (.Name x npos) X.env) :: starEach [] X.env := by rfl) (hpl : (backTo pos (starEach [] X.env)).any (·.1) = false := by rfl) :
    JO X B (.Call (.Name "len" p) [.Name x npos] [] pos) (oDlen i) := by
  refine ⟨fun σ ρ F H fp Q g q => wE_of (pe_callB call_lenD hg hm PySem.boot_len (pa_cons hp pa_nil he) (by decide) (by decide) he hpl) ?_⟩
  unfold oDlen at q
  split at q
  · rename_i ks ds e0
    obtain ⟨a, kvs, hv, hr, hk, hd⟩ := g.dkv e0
    have hl : kvs.length = ks.length := by rw [← hk, List.length_map]
    exact ⟨.ref a, hv, a, kvs, rfl, hr, by rw [hl]; exact g.fin (fin_sh g.same (.int _) q)⟩
  · exact q.elim
/-- sorted(e), e a new dict of texts -/
def oDsort (t : TPo) : TPo := fun ρ Q => t ρ fun o ρ1 => match o with
  | .fd ks _ => ∃ zs : List Str, ks = zs.map .inr ∧ zs.length < 64 ∧ ∀ ys : List Str, ys.Perm zs → PyProof.Rows.sortedS ys = true → Q (.fl (ys.map .str)) ρ1
  | _ => False
theorem jo_dsort (px : PX X) (hg : Gl X "sorted") (hm : X.mg "sorted" = none) (h : JO X B e t) (he : starEach [e] X.env = (false, eval e X.env) :: starEach [] X.env := by rfl) (hpl : (backTo pos (starEach [] X.env)).any (·.1) = false := by rfl) :
    JO X B (.Call (.Name "sorted" p) [e] [] pos) (oDsort t) := by
  refine ⟨fun σ ρ F H fp Q g q => wE_of (pe_callB (call_sortedD px.calm) hg hm PyProof.Rows.boot_sorted (pa_cons pe_w pa_nil he) (by decide) (by decide) he hpl) (wE_mono (h.run σ ρ F H fp _ g q) fun v H1 ⟨o, ρ1, F1, fp1, lo, a1, a2, a3, g1, e1, q1⟩ => ?_)⟩
  dsimp only at q1
  split at q1
  · obtain ⟨zs, rfl, hl, q1⟩ := q1
    obtain ⟨a, kvs, rfl, rfl, h1, h2, h3⟩ := a1.fdInv
    refine ⟨a, kvs, zs, rfl, .inl h1, h2, hl, fun ys p hp hs n => ?_⟩
    exact (g1.fin (fin_list g1.same n (dp_strs ys) (q1 ys hp hs))).ext (e1.less fun c z => .inr z)
  · exact q1.elim
end
end Pl
/-! The pure layer, part 16: x.extend(e), y = x.pop(), y = x.pop(k). -/
namespace Pl
open PySem PySem.Spec L2
def zExt (i : Nat) (t : TPo) : TPS := fun D ρ => match ρ[i]? with
  | some (some (.fl _)) => t ρ fun o ρ' => match o, ρ'[i]? with
    | .fl es, some (some (.fl ds)) => ds.length + es.length ≤ sizeLine ∧ D.nx (ρ'.set i (some (.fl (ds ++ es))))
    | _, _ => False
  | _ => False
section
variable {X : Cx} {B : Hp} {P : List Nat} {x : Str} {e : Expr} {i : Nat} {t : TPo} {npos apos cpos pos : Pos}
theorem js_ext (hp : PE X (.Name x npos) (tVar i)) (h : JO X B e t)
    (hbase : attributeBase (.Name x npos) "extend" X.env (eval (.Name x npos) X.env) = eval (.Name x npos) X.env := by rfl)
    (hfew : ((backTo cpos (starEach [e] X.env)).all (fun x => !x.1) && (backToKw cpos (keywordEach [] X.env)).all (fun x => x.1.isSome)
      && decide (([e] : List Expr).length + ([] : List Keyword).length + (if ([] : List Keyword).isEmpty then 0 else 1) < 30)) = true := by rfl)
    (hline : (apos.endLine == cpos.line) = true := by rfl) (hst : starEach [e] X.env = (false, eval e X.env) :: starEach [] X.env := by rfl) (hplain : (backTo cpos (starEach [] X.env)).any (·.1) = false := by rfl)
    (hs : swapsWith (.Call (.Attribute (.Name x npos) "extend" apos) [e] [] cpos) none pos.line X.env = pure false := by rfl) :
    JSt X B P (.Expr (.Call (.Attribute (.Name x npos) "extend" apos) [e] [] cpos) pos) (zExt i t) := by
  refine ⟨fun σ ρ F H fp D g q => wS_of (ps_expr (pe_bm PySem.F.plainAttrs_list PySem.F.slot_list_extend PySem.F.type_list_extend mt_extend hp (pa_cons pe_w pa_nil hst) hbase hfew hline hst hplain) hs) ?_⟩
  unfold zExt at q
  split at q
  · rename_i ds e0
    obtain ⟨a, vs, hv, ha, hf, hd⟩ := g.flAt e0
    refine ⟨.ref a, hv, .inl ⟨rfl, vs, .inl (.inl ha)⟩, wE_mono (h.run σ ρ F H fp _ g q) fun w H1 ⟨o, ρ1, F1, fp1, lo, x1, x2, x3, g1, e1, q1⟩ => ?_⟩
    dsimp only at q1
    split at q1
    · rename_i es ds1 ed
      obtain ⟨a1, vs1, hv1, ha1, hf1, hd1⟩ := g1.flAt ed
      rw [hv] at hv1; cases hv1
      cases x1 with
      | @fl b zs _ b1 b2 =>
        obtain ⟨fp', g2, e2⟩ := g1.wlist ed hv ha1 hf1 (hd1.append b2)
        exact ⟨a, b, vs1, zs, rfl, rfl, ha1, b1, by rw [hd1.len, b2.len]; exact q1.1, _, F1, fp', g2, (e1.less fun c z => .inr z).trans e2, fun _ _ => rfl, q1.2⟩
    · exact q1.elim
  · exact q.elim
end

/-! ### the last one, the k-th one is taken -/
def oPop (i : Nat) : TPo := fun ρ Q => match ρ[i]? with
  | some (some (.fl ds)) => match ds[ds.length - 1]? with
    | some d => Q (.sh d) (ρ.set i (some (.fl ds.dropLast)))
    | none => False
  | _ => False
def oPopC (i k : Nat) : TPo := fun ρ Q => match ρ[i]? with
  | some (some (.fl ds)) => match ds[k]? with
    | some d => Q (.sh d) (ρ.set i (some (.fl (ds.eraseIdx k))))
    | none => False
  | _ => False
theorem DqAll.last {K : Kb} {F : Hp} : ∀ {vs : List V} {ds : List D}, DqAll K F vs ds → DqAll K F vs.dropLast ds.dropLast
  | [], [], _ => .nil
  | [_], [_], _ => .nil
  | _ :: v :: vs, _ :: d :: ds, .cons h t => .cons h (DqAll.last t)
  | [_], _ :: _ :: _, .cons _ t => by cases t
  | _ :: _ :: _, [_], .cons _ t => by cases t
section
variable {X : Cx} {B : Hp} {x : Str} {i : Nat} {npos apos cpos c1 : Pos} {j1 : Nat}
theorem jo_pop0 (hp : PE X (.Name x npos) (tVar i))
    (hbase : attributeBase (.Name x npos) "pop" X.env (eval (.Name x npos) X.env) = eval (.Name x npos) X.env := by rfl)
    (hfew : ((backTo cpos (starEach [.Constant (.int 0) j1 c1] X.env)).all (fun x => !x.1) && (backToKw cpos (keywordEach [] X.env)).all (fun x => x.1.isSome)
      && decide (([.Constant (.int 0) j1 c1] : List Expr).length + ([] : List Keyword).length + (if ([] : List Keyword).isEmpty then 0 else 1) < 30)) = true := by rfl)
    (hline : (apos.endLine == cpos.line) = true := by rfl) (hst : starEach [.Constant (.int 0) j1 c1] X.env = (false, eval (.Constant (.int 0) j1 c1) X.env) :: starEach [] X.env := by rfl) (hplain : (backTo cpos (starEach [] X.env)).any (·.1) = false := by rfl) :
    JO X B (.Call (.Attribute (.Name x npos) "pop" apos) [.Constant (.int 0) j1 c1] [] cpos) (oPopC i 0) := by
  refine ⟨fun σ ρ F H fp Q g q => wE_of (pe_bm PySem.F.plainAttrs_list PySem.F.slot_list_pop PySem.F.type_list_pop mt_popAt hp (pa_cons pe_int pa_nil hst) hbase hfew hline hst hplain) ?_⟩
  unfold oPopC at q
  split at q
  · rename_i ds e0
    obtain ⟨a, vs, hv, ha, hf, hd⟩ := g.flAt e0
    split at q
    · rename_i d ed
      obtain ⟨v, ev, dv⟩ := hd.get ed
      have hl : 0 < vs.length := (List.getElem?_eq_some_iff.mp ev).1
      obtain ⟨fp', g2, e2⟩ := g.wlist e0 hv ha hf (hd.erase 0)
      refine ⟨.ref a, hv, .inl ⟨rfl, vs, .inl (.inl ha)⟩, a, vs, 0, 0, v, rfl, rfl, ha, by decide, by decide, ?_, ev, .sh d, _, F, fp', [], .sh dv, List.nodup_nil, fun a m => by simp at m, g2, e2.less fun c z => z.elim (fun m => by simp at m) id, q⟩
      have h0 : ixN vs.length 0 = some 0 := by
        unfold ixN
        rw [if_pos (by decide), if_pos (by omega)]; rfl
      exact (ixN_seq h0).1
    · exact q.elim
  · exact q.elim
end
end Pl
/-! The pure layer, part 17: < and > of data. -/
namespace Pl
open PySem PySem.Spec L2
def rLtP (K : PySem.W.Frag) : R2 := fun x y H Q => ∃ d e, Dp K H x d ∧ Dp K H y e ∧ PySem.W.alike d e = true ∧ d ≠ .none ∧ min d.depth e.depth ≤ 64 ∧ Q (.bl (PySem.W.dataLt d e)) H
def rGtP (K : PySem.W.Frag) : R2 := fun x y H Q => ∃ d e, Dp K H x d ∧ Dp K H y e ∧ PySem.W.alike d e = true ∧ d ≠ .none ∧ min d.depth e.depth ≤ 64 ∧ Q (.bl (PySem.W.dataLt e d)) H
theorem op_ltP {X : Cx} (px : PX X) : OpR X (compareOp .Lt) (rLtP X.K) := by
  intro pins s σ H x y v u Q I rx ry h
  obtain ⟨d, e, hd, he, ha, hn, hz, q⟩ := h
  obtain ⟨as, r1⟩ := Dp.reads I d x v hd rx
  obtain ⟨bs, r2⟩ := Dp.reads I e y u he ry
  have := px.hu
  exact PySem.W.lt_data r1 r2 ha hn (by omega) ⟨.bl _, H, I, rfl, q⟩
theorem op_gtP {X : Cx} (px : PX X) : OpR X (compareOp .Gt) (rGtP X.K) := by
  intro pins s σ H x y v u Q I rx ry h
  obtain ⟨d, e, hd, he, ha, hn, hz, q⟩ := h
  obtain ⟨as, r1⟩ := Dp.reads I d x v hd rx
  obtain ⟨bs, r2⟩ := Dp.reads I e y u he ry
  have := px.hu
  exact PySem.W.gt_data r1 r2 ha hn (by omega) ⟨.bl _, H, I, rfl, q⟩
def pLtD : P2 := fun d e Q => (PySem.W.alike (er d) (er e) = true ∧ er d ≠ .none ∧ min (er d).depth (er e).depth ≤ 64) ∧ Q (.sh (.bool (PySem.W.dataLt (er d) (er e))))
def pGtD : P2 := fun d e Q => (PySem.W.alike (er d) (er e) = true ∧ er d ≠ .none ∧ min (er d).depth (er e).depth ≤ 64) ∧ Q (.sh (.bool (PySem.W.dataLt (er e) (er d))))
theorem s_ltD {K : Kb} : Op2S K (rLtP K.K) pLtD := fun F H v w d e Q R s rv rw' q k => ⟨er d, er e, (rv.dpH s).dp, (rw'.dpH s).dp, q.1.1, q.1.2.1, q.1.2.2, k _ _ (fin_sh s (.bl _) q.2)⟩
theorem s_gtD {K : Kb} : Op2S K (rGtP K.K) pGtD := fun F H v w d e Q R s rv rw' q k => ⟨er d, er e, (rv.dpH s).dp, (rw'.dpH s).dp, q.1.1, q.1.2.1, q.1.2.2, k _ _ (fin_sh s (.bl _) q.2)⟩
section
variable {X : Cx} {B : Hp} {a b : Expr} {ta tb : TPx} {pos : Pos}
theorem jo_ltD (px : PX X) (ha : JX X B a ta) (hb : JX X B b tb) : JO X B (.Compare a [.Lt] [b] pos) (o2 pLtD ta tb) := jo_2 (fun ha hb => pe_cmpR (op_ltP px) ha hb (nomark _)) s_ltD ha hb
theorem jo_gtD (px : PX X) (ha : JX X B a ta) (hb : JX X B b tb) : JO X B (.Compare a [.Gt] [b] pos) (o2 pGtD ta tb) := jo_2 (fun ha hb => pe_cmpR (op_gtP px) ha hb (nomark _)) s_gtD ha hb
theorem jt_ltD (px : PX X) (ha : JX X B a ta) (hb : JX X B b tb) : JT X B (.Compare a [.Lt] [b] pos) (bO (o2 pLtD ta tb)) := jt_2 (fun ha hb => pt_cmpR (op_ltP px) ha hb (nomark _)) s_ltD ha hb
theorem jt_gtD (px : PX X) (ha : JX X B a ta) (hb : JX X B b tb) : JT X B (.Compare a [.Gt] [b] pos) (bO (o2 pGtD ta tb)) := jt_2 (fun ha hb => pt_cmpR (op_gtP px) ha hb (nomark _)) s_gtD ha hb
end
end Pl
/-! The pure layer, part 18: a new list times an int. -/
namespace Pl
open PySem PySem.Spec L2
theorem DqAll.rep {K : Kb} {F : Hp} {vs : List V} {ds : List D} (h : DqAll K F vs ds) : ∀ k : Nat, DqAll K F (List.replicate k vs).flatten (List.replicate k ds).flatten
  | 0 => by simp; exact .nil
  | k + 1 => by
    rw [List.replicate_succ, List.replicate_succ, List.flatten_cons, List.flatten_cons]
    exact h.append (DqAll.rep h k)
/-- [..] * k -/
def oRep (ta tb : TPe) : TPo := fun ρ Q => ta ρ fun d ρ1 => tb ρ1 fun e ρ2 => match d, e with
  | .nl ds, .int k => (-(2 ^ 63) ≤ k ∧ k < 2 ^ 63 ∧ ds.length * k.toNat ≤ sizeLine) ∧ Q (.fl (List.replicate k.toNat ds).flatten) ρ2
  | _, _ => False
section
variable {X : Cx} {B : Hp} {a b : Expr} {ta tb : TPe} {pos : Pos}
theorem jo_rep (ha : JE X B a ta) (hb : JE X B b tb) : JO X B (.BinOp a .Mult b pos) (oRep ta tb) := by
  refine ⟨fun σ ρ F H fp Q g q => wE_of (pe_op op_rep pe_w pe_w) (wE_mono (ha.run σ ρ F H fp _ g q) fun v H1 ⟨d, ρ1, F1, fp1, x1, g1, e1, q1⟩ => ?_)⟩
  refine wE_mono (hb.run σ ρ1 F1 H1 fp1 _ g1 q1) fun w H2 ⟨e, ρ2, F2, fp2, y2, g2, e2, q2⟩ => ?_
  cases d with
  | nl ds =>
    cases e with
    | int k =>
      have q2 : (-(2 ^ 63) ≤ k ∧ k < 2 ^ 63 ∧ ds.length * k.toNat ≤ sizeLine) ∧ Q (.fl (List.replicate k.toNat ds).flatten) ρ2 := q2
      have x2 := x1.mono e2.f
      cases x2 with
      | @nl l vs _ hb' hF hd =>
        cases y2
        obtain ⟨⟨h1, h2, h3⟩, q2⟩ := q2
        refine ⟨l, k, vs, rfl, rfl, g2.same _ _ hF, h1, h2, by rw [hd.len]; exact h3, fun p hp => ?_⟩
        exact (g2.fin (fin_list (Q := fun o => Q o ρ2) g2.same hp (hd.rep k.toNat) q2)).ext (e1.trans e2)
    | _ => exact False.elim q2
  | _ => exact False.elim q2
end
end Pl
/-! The pure layer, part 19: sorted(set(e)), e a list of texts. -/
namespace Pl
open PySem PySem.Spec L2 PyProof.Rows PySem.Froz
section
variable {P : Program} {w : World} {A : Around} {E : Value → Shared → Prop} {s : Shared}
/-- the set at a holds the texts l -/
def TS1 (P : Program) (w : World) (h : Heap) (a : Addr) (l : List Str) : Prop :=
  ∃ Y : SD, h.get? a = some (sObj "set" Y) ∧ TxOk P w Y l ∧ l.Nodup ∧ l.length < scanBound ∧ Ris Y.2.2.place.toList ∧ (w.params.followText "set-order" = true ∨ Y.2.2.led = true)
theorem tail_ris {ep : Nat} {xs : Array (Int × Value)} {t : SetTable} {b : Bool} (h : Ris t.place.toList) : Ris (tailTx ep xs t b).2.2.place.toList := by
  unfold tailTx
  split
  · exact relayAll_ris _ _ _
  · exact h
theorem tail_led {ep : Nat} {xs : Array (Int × Value)} {t : SetTable} {b : Bool} : (tailTx ep xs t b).2.2.led = t.led := by
  unfold tailTx
  split
  · exact relayAll_led _ _ _
  · rfl
theorem addTx_ris {h : Int} {v : Value} {Y : SD} (r : Ris Y.2.2.place.toList) : Ris (addTx h v Y).2.2.place.toList := by
  unfold addTx
  refine tail_ris ?_
  split
  · exact layNew_ris _ _ _ _ r
  · exact layNew_ris _ _ _ _ r
theorem addTx_led {h : Int} {v : Value} {Y : SD} : (addTx h v Y).2.2.led = Y.2.2.led := by
  unfold addTx
  rw [tail_led]
  split
  · exact layNew_led _ _ _ _
  · exact layNew_led _ _ _ _
theorem ts_add {a : Addr} {l : List Str} {k : Str} {u : Tok} {Q : Shared → Prop} (R : TS1 P w s.heap a l) (room : l.length + 1 < scanBound)
    (hq : ∀ h2 m, Heap.SameBut a s.heap h2 → TS1 P w h2 a m → (∀ x, x ∈ m ↔ x = k ∨ x ∈ l) → m.length ≤ l.length + 1 → Q { s with heap := h2 }) :
    wpAny (model P w) A (setAddHashed a (.str k u) (hashStr w k)) (fun _ => Q) E s := by
  obtain ⟨Y, g1, g2, g3, g4, g5, g6⟩ := R
  by_cases hk : k ∈ l
  · obtain ⟨xs, ep, t⟩ := Y
    have hx : (sObj "set" (xs, ep, t)).data = .set xs ep t := rfl
    have hfit : t.fits xs.size = true := g2.fit
    have hels : ElemsOf (strKind P w) xs.toList := g2.el
    have hn : xs.size = l.length := g2.sz
    obtain ⟨e, he1, he2⟩ := (g2.mem k).mp hk
    unfold setAddHashed setAddHashedIn
    refine wpAny_holding (wpAny_bind (wpAny_setState_of g1 hx hfit ?_))
    dsimp only
    rw [byScan_of rfl (by omega) hels]
    simp only [↓reduceIte]
    unfold setAddByScan
    refine wpAny_bind (wpAny_bind (wpAny_rule ?_))
    refine wpAny_bind (wpAny_setScan_of (knd := strKind P w) (k := k) (is_str k u) g1 hx hfit hels ?_)
    cases hfi : List.findIdx? (fun e => (strKind P w).is k e.2) xs.toList with
    | none => have := List.findIdx?_eq_none_iff.mp hfi e he1; rw [he2] at this; cases this
    | some j =>
      dsimp only
      refine wpAny_pure (wpAny_pure ?_)
      exact hq s.heap l (Heap.SameBut.refl a s.heap) ⟨_, g1, g2, g3, g4, g5, g6⟩ (fun x => ⟨.inr, fun z => z.elim (fun z => z ▸ hk) id⟩) (Nat.le_succ _)
  · refine add_x (T := "set") g1 g2 hk room (hq _ (k :: l) (Heap.SameBut.update s.heap a _) ⟨addTx (hashStr w k) (.str k u) Y, get_upd _ g1 rfl, add_ok u g2, List.nodup_cons.mpr ⟨hk, g3⟩, room, addTx_ris g5, g6.imp id fun z => by rw [addTx_led]; exact z⟩ (fun x => List.mem_cons) (Nat.le_refl _))
theorem TS1.keep {h h2 : Heap} {a : Addr} {l : List Str} (R : TS1 P w h a l) (k : ∀ o, h.get? a = some o → h2.get? a = some o) : TS1 P w h2 a l := by
  obtain ⟨Y, g1, g⟩ := R
  exact ⟨Y, k _ g1, g⟩
theorem ts_fresh {h : Heap} {a : Addr} (ho : h.get? a = some { cls := .type "set", dict := none, data := .set #[] 0 (.fresh 0 0 (!w.params.followText "set-order")) }) : TS1 P w h a [] := by
  refine ⟨(#[], 0, .fresh 0 0 (!w.params.followText "set-order")), ho, TxOk.nil rfl, List.nodup_nil, by decide, List.Pairwise.nil, ?_⟩
  show _ ∨ (!w.params.followText "set-order") = true
  cases w.params.followText "set-order"
  · exact .inr rfl
  · exact .inl rfl
/-- the loop of set(xs) -/
theorem ts_loop {I : Addr} {fp wr : List Addr} {G : Array GenState → Array GenState → Prop} {n : Nat} {Pv : Nat → Value → Prop} {St : Nat → Shared → Prop} {R : Result → Shared → Prop}
    (W : WalksS P w A.in1 I fp wr G n Pv St) (a : Addr) (hout : a ∉ fp) (xs : List Str) (hn : n = xs.length) (room : xs.length + 1 < scanBound) (hv : ∀ i v, Pv i v → ∃ x t, xs[i]? = some x ∧ v = .str x t) :
    ∀ (f i : Nat) (s : Shared) (l : List Str), n - i = f → i ≤ n → St i s → TS1 P w s.heap a l → (∀ x, x ∈ l ↔ x ∈ xs.take i) → l.length ≤ i →
      (∀ s2 m, Moved (a :: wr) G s s2 → TS1 P w s2.heap a m → (∀ x, x ∈ m ↔ x ∈ xs) → R (.ok (.ret .none)) s2) →
      codeAny (model P w) A (.builtin "set.update.loop" ⟨[.ref a, .ref I], []⟩) R s := by
  have nw : a ∉ wr := fun h => hout (W.sub _ h)
  have up : ∀ b ∈ wr, b ∈ a :: wr := fun b hb => List.mem_cons_of_mem _ hb
  intro f
  induction f with
  | zero =>
    intro i s l e1 e2 st hS hl hz hR
    have ei : i = n := by omega
    subst ei
    refine codeAny_builtin F.entry_set_update_loop ?_
    rw [Around.under_plainId F.plain_set_update_loop _]
    show wpAny _ A.in1 (pyNext (.ref I) >>= _) _ _ s
    refine wpAny_bind (W.done s _ _ st fun s2 mv => ?_)
    show wpAny _ A.in1 (ret Value.none) _ _ s2
    refine wpAny_pure (hR s2 l (mv.mono up) (hS.keep fun o e => mv.heap a o nw e) fun x => ?_)
    rw [hl x, hn, List.take_length]
  | succ f ih =>
    intro i s l e1 e2 st hS hl hz hR
    have lt : i < n := by omega
    refine codeAny_builtin F.entry_set_update_loop ?_
    rw [Around.under_plainId F.plain_set_update_loop _]
    show wpAny _ A.in1 (pyNext (.ref I) >>= _) _ _ s
    refine wpAny_bind (W.item i s _ _ lt st fun v s2 pv st2 mv => ?_)
    obtain ⟨x, t, hx, rfl⟩ := hv i v pv
    have hS2 : TS1 P w s2.heap a l := hS.keep fun o e => mv.heap a o nw e
    show wpAny _ A.in1 (holding [Value.str x t] (setAdd a (.str x t)) >>= _) _ _ s2
    refine wpAny_bind (wpAny_holding ?_)
    unfold setAdd
    refine wpAny_holding (wpAny_bind ((strKind P w).pyHash (k := x) (is_str x t) ?_))
    refine ts_add (s := { s2 with toks := s2.toks + 1 }) hS2 (by omega) fun h2 m sb hm hmem hml => ?_
    refine wpAny_pure ⟨plainId_quiet F.plain_set_update_loop _, ih (i + 1) _ m (by omega) lt (W.frame _ s2 _ _ st2 (Nat.le_succ _) fun b hb o e => ?_) hm (fun y => ?_) (by omega) fun s3 m3 mv3 hm3 hmem3 => ?_⟩
    · rw [sb.2 b fun z : b = a => hout (z ▸ hb)]; exact e
    · rw [hmem y, hl y]
      have et : xs.take (i + 1) = xs.take i ++ [x] := by rw [List.take_succ, hx]; rfl
      rw [et, List.mem_append, List.mem_singleton]
      exact Or.comm
    · refine hR s3 m3 (Moved.trans W.gtrans ((mv.mono up).then_heap (Nat.le_succ _) fun b o hb e => ?_) mv3) hm3 hmem3
      rw [sb.2 b fun z : b = a => hb (by rw [z]; exact List.mem_cons_self)]; exact e

abbrev newSet (w : World) : Obj := { cls := .type "set", dict := none, data := .set #[] 0 (.fresh 0 0 (!w.params.followText "set-order")) }
set_option maxRecDepth 100000 in
set_option maxHeartbeats 3200000 in
/-- set(xs), xs a list of texts -/
theorem ts_make {l : Addr} {its : Array Value} (xs : List Str) {Q : Value → Shared → Prop} (calm : A.handled = none) (hl : s.heap.IsList l its) (hit : ∀ (i : Nat) (v : Value), its[i]? = some v → ∃ x t, xs[i]? = some x ∧ v = Value.str x t) (hn : its.size = xs.length)
    (room : xs.length + 1 < scanBound)
    (hq : ∀ (h2 : Heap) (tk : Nat) m, TS1 P w h2 s.heap.objs.size m → (∀ x, x ∈ m ↔ x ∈ xs) → (∀ b o, s.heap.get? b = some o → h2.get? b = some o) → Q (.ref s.heap.objs.size) { s with heap := h2, toks := tk }) :
    wpAny (model P w) A (call (.type "set") [.ref l]) Q E s := by
  obtain ⟨c1, tl1, hmro⟩ := F.called_set.mro
  have hmk := F.called_set.made
  have hsb := F.called_set.sub
  refine wpAny_call (codeAny_of_tree ?_)
  show wpAny _ _ (callAny (.type "set") _) _ _ _
  refine wpAny_pure ⟨Code.quiet_builtin _ (by decide +kernel), codeAny_builtin F.entry_type_call ?_⟩
  rw [Around.under_plain (weight_type_call_type "set" [.ref l] []) rfl]
  have hh1 := F.called_set.notType
  have hh2 := F.called_set.canCreate
  have hh3 := F.typeCall_set_1 (.ref l)
  repeat (any_goals (first | assumption | wp_step))
  refine codeAny_mono (code_set_led1 (.ref l) (E := E) (Q₁ := fun ob s1 => ob = .ref s.heap.objs.size ∧ s1 = { s with heap := s.heap.push (newSet w) }) ⟨rfl, rfl⟩) fun r1 s1 hr1 => ?_
  cases r1 with
  | error e => exact hr1
  | ok fl1 =>
    cases fl1 with
    | ret ob =>
      obtain ⟨rfl, rfl⟩ := hr1
      have hob : (s.heap.push (newSet w)).get? s.heap.objs.size = some (newSet w) := Heap.get?_push_size _ rfl
      have hty : Shared.TypeIs { s with heap := s.heap.push (newSet w) } (.ref s.heap.objs.size) "set" := ⟨_, hob, rfl⟩
      have hlk := F.called_set.init.lookup
      have hbd := F.called_set.init.bind (.ref s.heap.objs.size)
      repeat (any_goals (first | assumption | wp_step))
      refine codeAny_mono (codeAny_call_builtin (R := wants (fun r s2 => r = .none ∧ ∃ h2 tk m, s2 = { s with heap := h2, toks := tk } ∧ TS1 P w h2 s.heap.objs.size m ∧ (∀ x, x ∈ m ↔ x ∈ xs) ∧
          (∀ b o, s.heap.get? b = some o → h2.get? b = some o)) E) F.called_set.init.plain F.entry_set_init (check_set_init_1 hty ?_)) fun r2 s2 hr2 => ?_
      · obtain ⟨⟨oc, od, oo, os⟩, hol, hcl, nl, hdl⟩ := hl
        simp only at hcl hdl
        subst hcl; subst hdl
        have hol2 : (s.heap.push (newSet w)).get? l = some { cls := .type "list", dict := od, data := .seq its nl, slots := os } := Heap.get?_push_of_some _ hol
        have hk1 := F.sub_list_set
        have hk2 := F.sub_list_frozenset
        have hk3 : (Value.type "list" == Value.type "dict") = false := by decide
        have hl2 : (s.heap.push (newSet w)).IsList l its := ⟨_, hol2, rfl, nl, rfl⟩
        unfold Builtin.«set.__init__» noKeywords Builtin.Frozenset.updateFrom
        generalize hPI : pyIter = PI
        wp_walk
        subst hPI
        refine wpAny_pyIter_list hl2 ?_
        refine wpAny_bind (wpAny_runValue ?_)
        have ll : l < s.heap.objs.size := Heap.lt_size hol
        have calm3 : A.in1.in1.in1.handled = none := by simp [calm]
        have sz1 : (s.heap.push (newSet w)).objs.size = s.heap.objs.size + 1 := Heap.size_push ..
        have ne1 : l ≠ (s.heap.push (newSet w)).objs.size := by rw [sz1]; exact Nat.ne_of_lt (Nat.lt_succ_of_lt ll)
        have out1 : s.heap.objs.size ∉ [(s.heap.push (newSet w)).objs.size, l] := by
          rw [sz1]; simp only [List.mem_cons, List.not_mem_nil, or_false, not_or]
          exact ⟨Nat.ne_of_lt (Nat.lt_succ_self _), Nat.ne_of_gt ll⟩
        refine ts_loop ((Walks.list calm3 _ l ne1 its).toS) s.heap.objs.size out1 xs hn room hit (its.size - 0) 0 _ [] (by omega) (Nat.zero_le _)
          ⟨⟨_, Heap.get?_push_size _ rfl, rfl, rfl⟩, (hl2.push _)⟩ (ts_fresh (Heap.get?_push_of_some _ hob)) (fun x => by simp) (Nat.le_refl _) fun s3 m mv hm hmem => ?_
        obtain ⟨h3, g3, d3, tk3, os3⟩ := s3
        have eg : g3 = s.gens := mv.gens
        have ed : d3 = s.drawn := mv.drawn
        have eo : os3 = s.os := mv.os
        subst eg; subst ed; subst eo
        show wpAny _ _ _ _ _ _
        refine wpAny_pure ?_
        show wpAny _ _ (ret Value.none) _ _ _
        refine wpAny_pure ⟨rfl, h3, tk3, m, rfl, hm, hmem, fun b o e => ?_⟩
        have bl := Heap.lt_size e
        refine mv.heap b o (fun z => ?_) (Heap.get?_push_of_some _ (Heap.get?_push_of_some _ e))
        rcases List.mem_cons.mp z with z | z
        · exact Nat.ne_of_lt bl z
        · rw [List.mem_singleton.mp z, sz1] at bl; exact absurd bl (Nat.not_lt_of_le (Nat.le_succ _))
      · cases r2 with
        | error e => exact hr2
        | ok fl2 =>
          cases fl2 with
          | ret r =>
            obtain ⟨rfl, h2, tk, m, rfl, hm, hmem, hkp⟩ := hr2
            repeat (any_goals (first | assumption | wp_step))
            exact hq _ _ _ hm hmem hkp
          | _ => exact hr2.elim
    | _ => exact hr1.elim
/-- the texts' values -/
theorem ts_vals {es : List (Int × Value)} (h : ElemsOf (strKind P w) es) : ∀ v ∈ es.map (·.2), ∃ x t, v = .str x t := by
  intro v hv
  obtain ⟨e, he, rfl⟩ := List.mem_map.mp hv
  obtain ⟨⟨k, hk, _⟩, _⟩ := h e he
  have hk : Value.isStrOf k e.2 = true := hk
  cases e2 : e.2 with
  | str x t => exact ⟨x, t, rfl⟩
  | _ => rw [e2] at hk; cases hk
def strOf : Value → Str
  | .str x _ => x
  | _ => ""
theorem strOf_is {k : Str} {v : Value} (h : (strKind P w).is k v = true) : strOf v = k := by
  have h : Value.isStrOf k v = true := h
  cases v <;> simp [Value.isStrOf] at h
  exact h
end
end Pl
/-! The pure layer, part 20: sorted(set(e)), the rule. -/
namespace Pl
open PySem PySem.Spec L2 PyProof.Rows PySem.Froz
theorem perm_nodup {α : Type} [DecidableEq α] : ∀ (l m : List α), l.Nodup → (∀ x ∈ l, x ∈ m) → m.length ≤ l.length → m.Perm l
  | [], m, _, _, h => by rw [List.length_eq_zero_iff.mp (Nat.le_zero.mp h)]
  | x :: l, m, hn, hs, h => by
    obtain ⟨h1, h2⟩ := List.nodup_cons.mp hn
    have hx := hs x (List.mem_cons_self ..)
    refine (List.perm_cons_erase hx).trans (List.Perm.cons x (perm_nodup l (m.erase x) h2 (fun y hy => ?_) ?_))
    · exact (List.mem_erase_of_ne fun e : y = x => h1 (by rw [← e]; exact hy)).mpr (hs y (List.mem_cons_of_mem _ hy))
    · rw [List.length_erase_of_mem hx]
      rw [List.length_cons] at h
      omega
section
variable {P : Program} {w : World} {A : Around} {E : Value → Shared → Prop} {s : Shared}
def isTx (v : Value) (b : Str) : Prop := ∃ t, v = .str b t
theorem tx_each : ∀ (vs : List Value), (∀ v ∈ vs, ∃ x t, v = Value.str x t) → PySem.W.EachIs isTx vs (vs.map strOf)
  | [], _ => .nil
  | v :: vs, h => by
    obtain ⟨x, t, rfl⟩ := h v (List.mem_cons_self ..)
    exact .cons ⟨t, rfl⟩ (tx_each vs fun u hu => h u (List.mem_cons_of_mem _ hu))
theorem tx_vals : ∀ {vs : List Value} {ys : List Str}, PySem.W.EachIs isTx vs ys → Vals (ys.map V.str) vs
  | _, _, .nil => .nil
  | _, _, .cons ⟨t, e⟩ r => .cons ⟨t, e⟩ (tx_vals r)
def strLeD (a b : Str) : Bool := PySem.W.dataLe false PyData.str a b
theorem ts_sorted {a : Addr} {l : List Str} {Q : Value → Shared → Prop} (R : TS1 P w s.heap a l) (calm : A.handled = none) (hu : A.units + 8 < cLine)
    (hq : ∀ (s2 : Shared) (p : Addr) (out : List Value) (c : Nat) (ys : List Str), (∀ b o, s.heap.get? b = some o → s2.heap.get? b = some o) → s2.gens = s.gens → s2.os = s.os → s.heap.objs.size ≤ p →
      s2.heap.get? p = some (seqObj "list" out.toArray c) → PySem.W.EachIs isTx out ys → ys.Perm l → ys.Pairwise (fun a b => strLeD a b = true) → Q (.ref p) s2) :
    wpAny (model P w) A (call (.builtin "sorted") [.ref a]) Q E s := by
  obtain ⟨⟨xs, ep, t⟩, g1, g2, g3, g4, g5, g6⟩ := R
  have hn : xs.size = l.length := g2.sz
  refine Calls.call_function_entry kind_sorted plain_sorted entry_sorted (args_sorted1 _) ?_
  unfold Builtin.«sorted»
  refine wpAny_bind (m := checkCount "sorted" 1 1 _) (wpAny_pure ?_)
  refine wpAny_bind (collect_set (A := A.in1) calm ⟨_, g1, rfl, rfl⟩ g2.fit (by show xs.size < _; omega) g5 g6 fun s1 vs k1 z1 n1 o1 pm => ?_)
  have hvs : ∀ v ∈ vs, ∃ x t, v = Value.str x t := fun v hv => ts_vals g2.el v (pm.mem_iff.mp hv)
  have hvl : vs.length = l.length := by rw [pm.length_eq, List.length_map, Array.length_toList]; exact hn
  have hlz : l.length ≤ sizeLine := by have := sizeLine_eq; unfold scanBound at g4; omega
  have hpl : (vs.map strOf).Perm l := by
    refine perm_nodup l _ g3 (fun x hx => ?_) (by rw [List.length_map]; omega)
    obtain ⟨e, he1, he2⟩ := (g2.mem x).mp hx
    refine List.mem_map.mpr ⟨e.2, pm.mem_iff.mpr (List.mem_map_of_mem he1), strOf_is he2⟩
  refine wpAny_bind (wpAny_newList ?_ (by rw [hvl]; exact hlz))
  have hoL : (s1.heap.push (seqObj "list" vs.toArray 0)).get? s1.heap.objs.size = some (seqObj "list" vs.toArray 0) := Heap.get?_push_size _ rfl
  have eR := tx_each vs hvs
  have hal : PySem.W.AllAlike ((vs.map strOf).map PyData.str) := PySem.W.AllAlike.of fun a b => by show PySem.W.alike (.str a) (.str b) = true; simp [PySem.W.alike]
  have hso : PySem.W.Sortable ((vs.map strOf).map PyData.str) := Or.inr fun d hd => by
    obtain ⟨b, _, rfl⟩ := List.mem_map.mp hd
    exact ⟨fun e => (by cases e), fun xs e => (by cases e)⟩
  have hrd : PySem.W.EachIs (fun v b => ∃ as, Reads (s1.heap.push (seqObj "list" vs.toArray 0)) v (PyData.str b) as ∧ s1.heap.objs.size ∉ as) vs (vs.map strOf) := eR.mono fun v b ⟨t, e⟩ => ⟨[], by rw [e]; exact .str b t, by simp⟩
  refine wpAny_bind (wpAny_holding (PySem.W.list_sort_data (s := { s1 with heap := s1.heap.push (seqObj "list" vs.toArray 0) }) (R := isTx) (enc := PyData.str) hoL eR hrd hal hso (by rw [List.length_map, hvl]; exact hlz) (fun b _ => by show A.units + 1 + 1 + 0 < cLine; omega) fun out ho eo => ?_))
  obtain ⟨c, hc⟩ := sortedHeap_at (vs := vs) (out := out.toArray) hoL
  refine wpAny_pure ⟨_, rfl, hq _ s1.heap.objs.size out c _ (fun b u e => ?_) n1 o1 z1 hc eo ((List.mergeSort_perm _ _).trans hpl) (PySem.W.sort_pairwise (show PySem.W.TotalLe (PySem.W.dataLe false PyData.str) from PySem.W.sortLe_total _ _ _) _)⟩
  have q := k1 b u e
  have hlt := Heap.lt_size q
  show (sortedHeap (s1.heap.push (seqObj "list" vs.toArray 0)) s1.heap.objs.size vs out.toArray).get? b = some u
  rw [sortedHeap_old (Nat.ne_of_lt hlt) (by rw [size_push']; exact Nat.lt_succ_of_lt hlt)]
  exact Heap.get?_push_of_some _ q
end
section
variable {X : Cx} {B : Hp} {e : Expr} {t : TPx} {p p2 pos pos2 : Pos}
def HS1 (P : Program) (w : World) (a : Addr) (m : List Str) : HO := .ext fun h => TS1 P w h a m
theorem hs_new {P : Program} {w : World} {H : Hp} {h : Heap} {a : Addr} {m : List Str} (R : TS1 P w h a m) : ObjOk P w H h a (HS1 P w a m) := by
  have ⟨Y, ho, _⟩ := R
  exact ⟨R, ⟨_, ho⟩, fun h1 h2 q k => TS1.keep q k⟩
def rSetS (K : PySem.W.Frag) (P : Program) (w : World) : List V → Hp → VK → Prop := fun xs H Q => ∃ (l : Addr) (ys : List Str), xs = [V.ref l] ∧ SqL K H l (ys.map V.str) ∧ ys.length + 1 < scanBound ∧
  ∀ a m, H a = none → (∀ x, x ∈ m ↔ x ∈ ys) → m.Nodup → Q (.ref a) (upd H a (HS1 P w a m))
theorem str_at : ∀ {ys : List Str} {us : List Value} (i : Nat) (v : Value), Vals (ys.map V.str) us → us[i]? = some v → ∃ x t, ys[i]? = some x ∧ v = Value.str x t
  | [], [], i, v, _, h => by simp at h
  | y :: ys, u :: us, 0, v, .cons ⟨t, e⟩ _, h => ⟨y, t, rfl, by rw [← Option.some.inj h]; exact e⟩
  | y :: ys, u :: us, i + 1, v, .cons _ r, h => str_at (ys := ys) i v r h
theorem call_setS (px : PX X) : CallR X (.type "set") (rSetS X.K X.prog X.w) := by
  intro pins s σ H xs us Q I r h
  obtain ⟨l, ys, rfl, hl, room, q⟩ := h
  rw [Vals.ref1 r]
  obtain ⟨its, rv, pl, hz⟩ := I.list hl
  have hsz : its.toArray.size = ys.length := by rw [List.size_toArray, ← rv.length, List.length_map]
  refine ts_make (P := X.prog) (w := X.w) ys (I.ok.hd px.calm) pl.isList (fun i v hv => str_at i v rv (by simpa using hv)) hsz room fun h2 tk m R hm k => ?_
  have ⟨_, _, _, nd, _⟩ := R
  exact ⟨.ref s.heap.objs.size, upd H s.heap.objs.size (HS1 X.prog X.w s.heap.objs.size m), I.laid (t' := tk) k (Nat.le_refl _) (hs_new R), rfl, q _ m (I.hok.fresh (Nat.le_refl _)) hm nd⟩
def rSortS (P : Program) (w : World) : List V → Hp → VK → Prop := fun xs H Q => ∃ (a : Addr) (m : List Str), xs = [V.ref a] ∧ H a = some (HS1 P w a m) ∧
  ∀ (ys : List Str) (p : Addr), ys.Perm m → ys.Pairwise (fun a b => strLeD a b = true) → H p = none → Q (.ref p) (upd H p (.lst (ys.map V.str)))
theorem call_sortS (px : PX X) : CallR X (.builtin "sorted") (rSortS X.prog X.w) := by
  intro pins s σ H xs us Q I r h
  obtain ⟨a, m, rfl, ha, q⟩ := h
  have R : TS1 X.prog X.w s.heap a m := (I.hok a _ ha).1
  rw [Vals.ref1 r]
  have hu := px.hu
  refine ts_sorted R (I.ok.hd px.calm) (by omega) fun s2 p out c ys k g o hp hg ho pm pw => ?_
  have hv := tx_vals ho
  have hm : m.length < scanBound := by have ⟨_, _, _, _, z, _⟩ := R; exact z
  have hlen : (ys.map V.str).length ≤ sizeLine := by rw [List.length_map, pm.length_eq, sizeLine_eq]; unfold scanBound at hm; omega
  have hn : H p = none := I.hok.fresh hp
  have J : Inv X pins σ (upd H p (.lst (ys.map V.str))) { s with heap := s2.heap, gens := s2.gens, drawn := s2.drawn, toks := s2.toks } :=
    I.call (ch := []) (Un.laid k hp hn) (I.hok.laid k hp ⟨hlen, out, c, hv, hg⟩) (by rw [g]; exact I.bare) (fun _ z => nomatch z)
  have e : s2 = { s with heap := s2.heap, gens := s2.gens, drawn := s2.drawn, toks := s2.toks } := by
    cases s2
    cases s
    cases o
    rfl
  rw [e]
  exact ⟨.ref p, _, J, rfl, q ys p pm pw hn⟩
/-- sorted(set(e)) -/
def oSSet (t : TPx) : TPo := fun ρ Q => t ρ fun x ρ1 => match res ρ1 x with
  | some (.list ds) => match strsOf ds with
    | some zs => zs.length ≤ 4000 ∧ ∀ ys : List Str, ys.Nodup → (∀ x, x ∈ ys ↔ x ∈ zs) → ys.Pairwise (fun a b => strLeD a b = true) → Q (.fl (ys.map .str)) ρ1
    | none => False
  | _ => False
theorem jo_sset (px : PX X) (hg : Gl X "sorted") (hm : X.mg "sorted" = none) (hg2 : Gl X "set") (hm2 : X.mg "set" = none) (h : JX X B e t) (he : starEach [.Call (.Name "set" p2) [e] [] pos2] X.env = (false, eval (.Call (.Name "set" p2) [e] [] pos2) X.env) :: starEach [] X.env := by rfl)
    (hpl : (backTo pos (starEach [] X.env)).any (·.1) = false := by rfl) (he2 : starEach [e] X.env = (false, eval e X.env) :: starEach [] X.env := by rfl) (hpl2 : (backTo pos2 (starEach [] X.env)).any (·.1) = false := by rfl) :
    JO X B (.Call (.Name "sorted" p) [.Call (.Name "set" p2) [e] [] pos2] [] pos) (oSSet t) := by
  refine ⟨fun σ ρ F H fp Q g q => wE_of (pe_callB (call_sortS px) hg hm PyProof.Rows.boot_sorted (pa_cons (pe_callTy (call_setS px) hg2 hm2 PyProof.Rows.boot_set (pa_cons pe_w pa_nil he2) (by decide) (by decide) he2 hpl2) pa_nil he) (by decide) (by decide) he hpl) (wE_mono (h.run σ ρ F H fp _ g q) fun v H1 ⟨x, ρ1, F1, fp1, x1, g1, e1, q1⟩ => ?_)⟩
  dsimp only at q1
  cases hx : res ρ1 x with
  | none => rw [hx] at q1; exact q1.elim
  | some d =>
    rw [hx] at q1
    have rq := res_q g1 x1 hx
    cases d with
    | list ds =>
      dsimp only at q1
      split at q1
      · rename_i zs ez
        obtain ⟨q0, q1⟩ := q1
        obtain ⟨a, vs, rfl, h1, h2⟩ := rq.list g1.same
        have ev := strs_v h2 ez
        subst ev
        refine ⟨a, zs, rfl, h1, by unfold scanBound; omega, fun b m hb hmem nd => ⟨b, m, rfl, upd_same, fun ys p pm pw hp => ?_⟩⟩
        have pb : p ≠ b := fun z => by subst z; rw [upd_same] at hp; cases hp
        rw [upd_ne pb] at hp
        have n1 : Same H1 (upd H1 b (HS1 X.prog X.w b m)) := same_upd hb
        have n2 : Same (upd H1 b (HS1 X.prog X.w b m)) (upd (upd H1 b (HS1 X.prog X.w b m)) p (.lst (ys.map V.str))) := same_upd (by rw [upd_ne pb]; exact hp)
        have fin : Fin (kb X B) F1 H1 (fun o => Q o ρ1) (.ref p) (upd (upd H1 b (HS1 X.prog X.w b m)) p (.lst (ys.map V.str))) :=
          ⟨F1, .fl (ys.map .str), [p], .fl upd_same (dp_strs ys), ⟨Same.refl F1, n1.trans n2, g1.same.trans (n1.trans n2), fun _ _ z => .inl z, fun c mc => by rw [List.mem_singleton.mp mc]; exact ⟨hp, g1.same.free hp⟩, by simp⟩, q1 ys (pm.nodup_iff.mpr nd) (fun x => (pm.mem_iff).trans (hmem x)) pw⟩
        exact (g1.fin fin).ext e1
      · exact q1.elim
    | _ => exact False.elim q1
end
end Pl
/-! The pure layer, part 21: min(a, b) of data. -/
namespace Pl
open PySem PySem.Spec L2 PyProof.Rows
section
variable {P : Program} {w : World} {A : Around} {E : Value → Shared → Prop} {s : Shared}
theorem min2_data {a b : Value} {da db : PyData} {as bs : List Addr} {Q : Value → Shared → Prop} (calm : A.handled = none) (ra : Reads s.heap a da as) (rb : Reads s.heap b db bs) (hal : PySem.W.AlikeAll [da, db]) (hu : A.units + 1 + PyData.depthAll [da, db] < cLine)
    (hq : ∀ v h2 tk cs, (v = a ∨ v = b) → Reads h2 v (PySem.W.minD da [db]) cs → (∀ c o, s.heap.get? c = some o → h2.get? c = some o) → Q v { s with heap := h2, toks := tk }) :
    wpAny (model P w) A (call (.builtin "min") [a, b]) Q E s := by
  have nm : (toString "min" ++ toString ".loop" : String) = "min.loop" := by decide
  refine call_function_tree F.kind_min F.plain_min F.entry_min (F.args_min2 _ _) ?_
  show wpAny _ A.in1 (Builtin.Builtins.bindParams "min" ["key", "default"] 0 ⟨[], []⟩ >>= _) _ _ _
  refine wpAny_bind (wpAny_of_eq (show Builtin.Builtins.bindParams "min" ["key", "default"] 0 ⟨[], []⟩ = pure [none, none] by rfl) ?_)
  show wpAny _ A.in1 (newTuple [a, b] >>= _) _ _ _
  refine wpAny_bind (wpAny_newObj_type ?_)
  have tup : (s.heap.push { cls := .type "tuple", data := .seq #[a, b] }).IsTuple s.heap.objs.size #[a, b] := ⟨_, Heap.get?_push_size _ rfl, rfl, 0, rfl⟩
  have old : ∀ c o, s.heap.get? c = some o → (s.heap.push { cls := .type "tuple", data := .seq #[a, b] }).get? c = some o := fun c o e => Heap.get?_push_of_some _ e
  have rr : ReadsAll (s.heap.push { cls := .type "tuple", data := .seq #[a, b] }) (#[a, b] : Array Value).toList [da, db] (as ++ (bs ++ [])) := .cons (Reads.keeps old ra) (.cons (Reads.keeps old rb) .nil)
  refine wpAny_bind (PySem.W.iter_tupleW (A := A.in1) (s := { s with heap := s.heap.push { cls := .type "tuple", data := .seq #[a, b] } }) calm tup fun s2 e2 W st hfp hw hk => ?_)
  refine wpAny_bind (wpAny_newObj_type ?_)
  have out : s2.heap.objs.size ∉ [(s.heap.push { cls := .type "tuple", data := .seq #[a, b] }).objs.size, s.heap.objs.size] := fun hm => Nat.lt_irrefl _ (hfp _ hm)
  rw [nm]
  refine wpAny_pure ⟨plainId_quiet F.plain_min_loop _, codeAny_min_loop_firstH W (s.heap.push { cls := .type "tuple", data := .seq #[a, b] }) hw _ (PySem.W.cmpIn_lt (A := A.in1) (s := { s with heap := s.heap.push { cls := .type "tuple", data := .seq #[a, b] } }) rr hal (by show A.units + 1 + _ < _; exact hu)) s2.heap.objs.size out (fresh_in hk) _ (by simp)
    (fun c o z => Heap.get?_push_of_some _ (hk c o z)) (W.frame 0 s2 _ s2.toks st (Nat.le_refl _) fun c _ o z => Heap.get?_push_of_some _ z) (Heap.get?_push_size _ rfl) fun v s3 pv mv => ?_⟩
  obtain ⟨h2, tk, rfl, hk2⟩ := PySem.W.moved_old e2 rfl (Moved.drop_new (tk := s2.toks) mv (Nat.le_refl _))
  obtain ⟨cs, r, _, _, _⟩ := PySem.W.readsAll_atA rr _ v pv
  have ef := (PySem.W.argBest_fold PySem.W.dataLt PyData.none da [db] 1 (Nat.le_refl _)).2
  refine hq v h2 tk cs ?_ (Reads.keeps hk2 (by unfold PySem.W.minD; rw [show ([db] : List PyData) = [db].take 1 by rfl, ← ef]; exact r)) fun c o z => hk2 c o (old c o z)
  have : ∀ i : Nat, (#[a, b] : Array Value)[i]? = some v → v = a ∨ v = b := fun i hi => by
    match i with
    | 0 => exact .inl (by simpa using hi.symm)
    | 1 => exact .inr (by simpa using hi.symm)
    | i + 2 => simp at hi
  exact this _ pv
end
section
variable {X : Cx} {B : Hp}
def rMin2 (K : PySem.W.Frag) : List V → Hp → VK → Prop := fun xs H Q => ∃ x y d e, xs = [x, y] ∧ Dp K H x d ∧ Dp K H y e ∧ PySem.W.AlikeAll [d, e] ∧ PyData.depthAll [d, e] ≤ 64 ∧ (PySem.W.minD d [e] = d → Q x H) ∧ (PySem.W.minD d [e] = e → Q y H)
theorem call_min2D (px : PX X) : CallR X (.builtin "min") (rMin2 X.K) := by
  intro pins s σ H xs us Q I r h
  obtain ⟨x, y, d, e, rfl, hd, he, ha, hz, q1, q2⟩ := h
  obtain ⟨u, v, rfl, ru, rv⟩ := vals2 r
  obtain ⟨as, ra⟩ := Dp.reads I d x u hd ru
  obtain ⟨bs, rb⟩ := Dp.reads I e y v he rv
  have hu := px.hu
  refine min2_data (I.ok.hd px.calm) ra rb ha (by omega) fun z h2 tk cs hz hr hk => ?_
  have I2 : Inv X pins σ H { s with heap := h2, toks := tk } := I.kept hk
  have hm : PySem.W.minD d [e] ∈ [d, e] := minD_mem d [e]
  rcases hz with rfl | rfl
  · obtain ⟨cs2, rc⟩ := Dp.reads I2 _ _ _ hd ru
    have em : d = PySem.W.minD d [e] := PySem.W.alike_unique d _ z cs2 cs (ha.1 _ (by simp) _ hm) rc hr
    exact ⟨x, H, I2, ru, q1 em.symm⟩
  · obtain ⟨cs2, rc⟩ := Dp.reads I2 _ _ _ he rv
    have em : e = PySem.W.minD d [e] := PySem.W.alike_unique e _ z cs2 cs (ha.1 _ (by simp) _ hm) rc hr
    exact ⟨y, H, I2, rv, q2 em.symm⟩
def pMin2 : PN := fun ds Q => match ds with
  | [.tuple xs, .tuple ys] => (PySem.W.AlikeAll [er (.tuple xs), er (.tuple ys)] ∧ PyData.depthAll [er (.tuple xs), er (.tuple ys)] ≤ 64) ∧ (PySem.W.minD (er (.tuple xs)) [er (.tuple ys)] = er (.tuple xs) → Q (.sh (.tuple xs))) ∧ (PySem.W.minD (er (.tuple xs)) [er (.tuple ys)] = er (.tuple ys) → Q (.sh (.tuple ys)))
  | _ => False
theorem s_min2 {K : Kb} : OpNS K (rMin2 K.K) pMin2 := by
  intro F H vs ds Q R s rv q k
  unfold pMin2 at q
  split at q
  · cases rv with
    | cons r1 rv =>
      cases rv with
      | cons r2 rv =>
        cases rv
        exact ⟨_, _, _, _, rfl, (r1.dpH s).dp, (r2.dpH s).dp, q.1.1, q.1.2, fun e => k _ _ (fin_sh s r1.tupD (q.2.1 e)), fun e => k _ _ (fin_sh s r2.tupD (q.2.2 e))⟩
  · exact q.elim
variable {e1 e2 : Expr} {ts : TPs} {p pos : Pos}
theorem jo_min2 (px : PX X) (hg : Gl X "min") (hm : X.mg "min" = none) (h : JS X B [e1, e2] ts) (he : starEach [e1, e2] X.env = (false, eval e1 X.env) :: starEach [e2] X.env := by rfl) (hpl : (backTo pos (starEach [e2] X.env)).any (·.1) = false := by rfl) :
    JO X B (.Call (.Name "min" p) [e1, e2] [] pos) (oN pMin2 ts) := jo_N (fun h => pe_callB (call_min2D px) hg hm PyProof.Rows.boot_min h (by decide) (by decide) he hpl) s_min2 h
end
end Pl
/-! The pure layer, part 22: x is None, x a told thing that is written. -/
namespace Pl
open PySem PySem.Spec L2
def isNonP : PyData → Bool
  | .none => true
  | _ => false
def pIsNP : P2P := fun d e Q => match e with
  | .none => Q (.sh (.bool (isNonP d)))
  | _ => False
def pNotNP : P2P := fun d e Q => match e with
  | .none => Q (.sh (.bool (!isNonP d)))
  | _ => False
theorem dp_isNon {K : PySem.W.Frag} {H : Hp} {v : V} {d : PyData} (h : Dp K H v d) : decide (v = .non) = isNonP d := by cases h <;> rfl
theorem s_isNP {K : Kb} : Op2P K (fun x y H Q => y = .non ∧ Q (.bl (decide (x = .non))) H) pIsNP := by
  intro F H v w d e Q R s rv rw' q k
  unfold pIsNP at q
  split at q
  · cases rw'
    exact ⟨rfl, by rw [dp_isNon rv]; exact k _ _ (fin_sh s (.bl _) q)⟩
  · exact q.elim
theorem s_notNP {K : Kb} : Op2P K (fun x y H Q => y = .non ∧ Q (.bl (!decide (x = .non))) H) pNotNP := by
  intro F H v w d e Q R s rv rw' q k
  unfold pNotNP at q
  split at q
  · cases rw'
    exact ⟨rfl, by rw [dp_isNon rv]; exact k _ _ (fin_sh s (.bl _) q)⟩
  · exact q.elim
section
variable {X : Cx} {B : Hp} {a b : Expr} {ta tb : TPx} {pos : Pos}
theorem jo_isnP (px : PX X) (ha : JX X B a ta) (hb : JX X B b tb) : JO X B (.Compare a [.Is] [b] pos) (o2p pIsNP ta tb) := jo_2p (fun ha hb => pe_cmpR op_isN ha hb (nomark _)) s_isNP ha hb
theorem jo_notnP (px : PX X) (ha : JX X B a ta) (hb : JX X B b tb) : JO X B (.Compare a [.IsNot] [b] pos) (o2p pNotNP ta tb) := jo_2p (fun ha hb => pe_cmpR op_notN ha hb (nomark _)) s_notNP ha hb
theorem jt_isnP (px : PX X) (ha : JX X B a ta) (hb : JX X B b tb) : JT X B (.Compare a [.Is] [b] pos) (bO (o2p pIsNP ta tb)) := jt_2p (fun ha hb => pt_cmpR op_isN ha hb (nomark _)) s_isNP ha hb
theorem jt_notnP (px : PX X) (ha : JX X B a ta) (hb : JX X B b tb) : JT X B (.Compare a [.IsNot] [b] pos) (bO (o2p pNotNP ta tb)) := jt_2p (fun ha hb => pt_cmpR op_notN ha hb (nomark _)) s_notNP ha hb
end
/-- a contract that is never asked -/
theorem fnG_no {P : Program} {w : World} {K : PySem.W.Frag} {mg : Str → Option Value} {base : Heap} {k : Nat} {f : Addr} {fd : FuncData} {ps : List Str} {C : Con} (h : ∀ os post, ¬ C os post) : FnG P w K mg base k f fd ps (spOf K C) :=
  ⟨fun vs H Q E ⟨_, _, os, _, post, _, _, _, _, _, hc, _⟩ => (h os post hc).elim, fun A outer s H args us vs Q E _ _ _ _ _ ⟨_, _, os, _, post, _, _, _, _, _, hc, _⟩ => (h os post hc).elim⟩
end Pl
/-! The pure layer, part 23: a test that looks into an own list, which stays one's own. -/
namespace Pl
open PySem PySem.Spec L2
def shOf : Option O → Option O
  | some (.sh d) => some (.sh d)
  | _ => none
def shOnly (ρ : Ev) : Ev := ρ.map shOf
def tTmp (i : Nat) (t : TPt) : TPt := fun ρ Q => match ρ[i]? with
  | some (some (.fl ds)) => t (shOnly (ρ.set i (some (.sh (.nl ds))))) fun b _ => Q b ρ
  | _ => False
section
variable {X : Cx} {B : Hp} {e : Expr} {i : Nat} {t : TPt}
theorem jt_tmp (h : JT X B e t) : JT X B e (tTmp i t) := by
  refine ⟨fun σ ρ F H fp Q g q => ?_⟩
  unfold tTmp at q
  split at q
  · rename_i ds e0
    obtain ⟨v, hv, r⟩ := g.loc i _ e0
    obtain ⟨F2, f1, f2, f3, f4⟩ := freeze r (show fz (.fl ds) = some (.nl ds) from rfl) g.same g.bs fun a m => g.df i a m
    have gs : Good (kb X B) σ (shOnly (ρ.set i (some (.sh (.nl ds))))) F2 H (fun _ => []) := by
      refine ⟨f2, g.bs.trans f1, fun j o ej => ?_, fun _ _ => rfl, fun _ => List.nodup_nil, fun _ _ a _ m => (by simp at m), fun _ a m => (by simp at m), by unfold shOnly; rw [List.length_map, List.length_set]; exact g.len⟩
      unfold shOnly at ej
      rw [List.getElem?_map] at ej
      cases ez : (ρ.set i (some (.sh (.nl ds))))[j]? with
      | none => rw [ez] at ej; cases ej
      | some w =>
        rw [ez] at ej
        have ej : shOf w = some o := Option.some.inj ej
        unfold shOf at ej
        split at ej
        · rename_i d
          cases ej
          rcases get_set ez with ⟨rfl, ew⟩ | ⟨n, ez⟩
          · cases ew; exact ⟨v, hv, .sh f4⟩
          · obtain ⟨u, hu, ru⟩ := g.loc j _ ez
            generalize fp j = lj at ru
            cases ru with
            | sh hd => exact ⟨u, hu, .sh (hd.mono f1)⟩
        · cases ej
    refine wT_mono (h.run σ _ F2 H _ _ gs q) fun b H2 ⟨ρ2, F3, fp2, g2, ex, q2⟩ => ?_
    have keep : ∀ a x, H a = some x → H2 a = some x := fun a x z => ex.h a x (fun ⟨j, m⟩ => by simp at m) z
    exact ⟨ρ, F, fp, g.step (Same.refl F) (fun a x z => keep a x (g.same a x z)) (fun a x _ z => keep a x z) fun a ⟨j, m⟩ => g.df j a m, ⟨Same.refl F, fun a x _ z => keep a x z, fun a x z => ⟨x, keep a x z⟩, fun a z => .inl z, fun a x z => .inl z⟩, q2⟩
  · exact q.elim
end
end Pl
/-! The pure layer, part 24: for y in x: y.append(None), x told, a list of lists of tuples -/
namespace Pl
open PySem PySem.Spec L2
def isTup : D → Bool
  | .tuple _ => true
  | _ => false
def pokeOk (n : Nat) (d : D) : Prop := match d with
  | .nl es => es.all isTup = true ∧ es.length + n < sizeLine
  | _ => False
def zPokeAll (i j : Nat) : TPS := fun D ρ => match ρ[i]? with
  | some (some (.jd (.nl ds))) => (∀ d ∈ ds, pokeOk ds.length d) ∧ D.nx ((ρ.set i (some (.jk ds.length))).set j none)
  | _ => False
/-- what the body does at a list -/
def Pokes (tb : TS) (j : Nat) : Prop := ∀ (D : Ends) (σ : L2.St) (H : Hp) (b : Addr) (ws : List V), σ[j]? = some (some (.ref b)) → H b = some (.lst ws) → ws.length < sizeLine → D.nx σ (upd H b (.lst (ws ++ [.non]))) → tb D σ H
theorem all_at {K : Kb} {G : Hp} : ∀ {vs : List V} {ds : List D}, DqAll K G vs ds → ∀ v ∈ vs, ∃ d ∈ ds, Dq K G v d
  | _, _, .nil, v, h => by cases h
  | _, _, .cons (d := d) h t, v, m => by
    rcases List.mem_cons.mp m with rfl | m
    · exact ⟨d, List.mem_cons_self .., h⟩
    · obtain ⟨d', md, q⟩ := all_at t v m
      exact ⟨d', List.mem_cons_of_mem _ md, q⟩
section
variable {X : Cx} {B : Hp} {P : List Nat} {x y : Str} {i j : Nat} {npos py pos : Pos} {body : List Stmt} {tb : TS}
theorem js_pokeAll (px : PX X) (hpo : PassesOwn (model X.prog X.w) X.A X.env X.xe) (hx : PE X (.Name x npos) (tVar i)) (hNj : X.N[j]? = some y) (hg : PG X (.Name y py) (gName j)) (hij : i ≠ j) (hP : j ∉ P)
    (hb : PSs X body tb) (hw : Pokes tb j)
    (hs2 : ∀ z, foldedSetIterable (.Name x npos) X.env z = pure z := by intro _; rfl) :
    JSt X B P (.For (.Name y py) (.Name x npos) body [] pos) (zPokeAll i j) := by
  refine ⟨fun σ ρ F H fp D g q pins s I => ?_⟩
  have hjl : j < σ.length := by rw [I.len]; exact (List.getElem?_eq_some_iff.mp hNj).1
  unfold zPokeAll at q
  split at q
  · rename_i ds e
    obtain ⟨hok, q⟩ := q
    obtain ⟨v, hv, r⟩ := g.loc i _ e
    have hfi : ∀ b ∈ fp i, F b = none := fun b m => g.df i b m
    generalize hlf : fp i = l at r
    cases r with
    | @jd _ _ G _ h1 h2 h3 =>
      cases h3 with
      | @nl a vs _ z0 z1 z2 =>
        have z0 : F a = none := z0
        have ga : H a = some (.lst vs) ∧ a ∈ l := by
          rcases cup_of z1 with z | ⟨_, z⟩
          · rw [z0] at z; cases z
          · exact h1 a _ z
        have lvs : vs.length = ds.length := z2.len
        have sameG : ∀ c o, cup F G c = some o → H c = some o := fun c o z => by
          rcases cup_of z with z | ⟨_, z⟩
          · exact g.same c o z
          · exact (h1 c o z).1
        have fact : ∀ v ∈ vs, ∃ b ws, v = .ref b ∧ H b = some (.lst ws) ∧ b ∈ l ∧ ws.length + vs.length < sizeLine ∧ b ≠ a := by
          intro v mv
          obtain ⟨d, md, dq⟩ := all_at z2 v mv
          have ok := hok d md
          cases dq with
          | @nl b ws es y0 y1 y2 =>
            have y0 : F b = none := y0
            have gb : H b = some (.lst ws) ∧ b ∈ l := by
              rcases cup_of y1 with z | ⟨_, z⟩
              · rw [y0] at z; cases z
              · exact h1 b _ z
            obtain ⟨o1, o2⟩ := ok
            refine ⟨b, ws, rfl, gb.1, gb.2, by rw [y2.len, lvs]; exact o2, fun eb => ?_⟩
            subst eb
            have ew : ws = vs := by have := gb.1.symm.trans ga.1; cases this; rfl
            subst ew
            obtain ⟨d2, md2, dq2⟩ := all_at y2 _ mv
            have ht := List.all_eq_true.mp o1 d2 md2
            cases d2 with
            | tuple ts =>
              cases dq2 with
              | tup t1 t2 =>
                have hT : ∃ xs, SqT X.K H b xs := by
                  rcases t1 with (t1 | ⟨o, t1⟩) | t1
                  · exact ⟨_, .inl (.inl (sameG _ _ t1))⟩
                  · exact ⟨_, .inl (.inr ⟨o, sameG _ _ t1⟩)⟩
                  · exact ⟨_, .inr t1⟩
                obtain ⟨xs, hT⟩ := hT
                obtain ⟨i1, r1, p1, _⟩ := I.list (show SqL X.K H b ws from .inl (.inl gb.1))
                obtain ⟨i2, r2, p2, _⟩ := I.tuple hT
                obtain ⟨o1, ho1, hc1, _⟩ := p1.isList
                obtain ⟨o2, ho2, hc2, _⟩ := p2
                rw [ho1] at ho2
                cases ho2
                rw [hc1] at hc2
                injection hc2 with hc3
                exact absurd hc3 (by decide)
            | _ => cases ht
          | _ => exact ok.elim
        have vb : ∀ v ∈ vs, v ≠ .ref a := fun v mv => by
          obtain ⟨b, ws, rfl, _, _, _, n⟩ := fact v mv
          exact fun z => n (by cases z; rfl)
        refine (wS_of (ps_for hpo px.calm (pi_list hx) hg hb hs2) ?_) pins s I
        refine ⟨.ref a, hv, a, rfl, ⟨vs, .inl (.inl ga.1)⟩, fun i' m σ' H' => i' + m = vs.length ∧ (σ' = σ ∨ ∃ w, σ' = σ.set j w) ∧ (∀ v ∈ vs, ∃ b ws ws', v = .ref b ∧ H b = some (.lst ws) ∧ H' b = some (.lst ws') ∧ ws'.length ≤ ws.length + i') ∧ (∀ c, V.ref c ∉ vs → H' c = H c),
          ⟨vs.length, by omega, .inl rfl, fun v mv => ?_, fun _ _ => rfl⟩, ?_⟩
        · obtain ⟨b, ws, rfl, hb', _⟩ := fact v mv
          exact ⟨b, ws, ws, rfl, hb', hb', by omega⟩
        rintro i' m σ' H' ⟨em, hσ, hin, hout⟩
        have hA : H' a = some (.lst vs) := (hout a fun z => vb _ z rfl).trans ga.1
        cases m with
        | zero =>
          refine .inl ⟨⟨vs, .inl (.inl hA), by omega⟩, ?_⟩
          have fa : ∀ k, k ≠ i → ∀ z ∈ l, z ∉ fp k := fun k n z mz mk => g.dj k i z n mk (by rw [hlf]; exact mz)
          have inl_of : ∀ c, V.ref c ∈ vs → c ∈ l := fun c mc => by
            obtain ⟨b, ws, eb, _, hl, _⟩ := fact _ mc
            cases eb; exact hl
          have keepF : ∀ c o, F c = some o → H' c = some o := fun c o z => by
            rw [hout c fun mc => by have := hfi c (by rw [hlf]; exact inl_of c mc); rw [z] at this; cases this]
            exact g.same c o z
          have g0 := g.drop i
          have g1 : Good (kb X B) σ (ρ.set i none) F H' (fun k => if k = i then [] else fp k) := g0.step (Same.refl F) keepF (fun d o ⟨k, mk⟩ z => by
              have mk : d ∈ (if k = i then [] else fp k) := mk
              by_cases w : k = i
              · rw [if_pos w] at mk; simp at mk
              · rw [if_neg w] at mk
                rw [hout d fun mc => fa k w d (inl_of d mc) mk]; exact z) (fun d ⟨k, mk⟩ => g0.df k d mk)
          have g2 := g1.alter (i := i) (o := .jk ds.length) (lo := [a]) hv (.jk hA (by omega)) (by simp) (fun d mk => by
            simp at mk
            subst mk
            refine ⟨z0, fun k n mk => ?_⟩
            have mk : d ∈ (if k = i then [] else fp k) := mk
            rw [if_neg n] at mk
            exact fa k n d ga.2 mk)
          rw [List.set_set] at g2
          have g3 : ∃ fp', Good (kb X B) σ' ((ρ.set i (some (.jk ds.length))).set j none) F H' fp' ∧ ∀ z, inL fp' z → inL fp z := by
            have sub : ∀ z, inL (fun k => if k = j then [] else if k = i then [a] else if k = i then [] else fp k) z → inL fp z := fun z hz => by
              rcases if_in hz with hz | hz
              · simp at hz
              · rcases if_in hz with hz | hz
                · simp at hz; subst hz; exact ⟨i, by rw [hlf]; exact ga.2⟩
                · rcases if_in hz with hz | hz
                  · simp at hz
                  · exact hz
            rcases hσ with rfl | ⟨w, rfl⟩
            · exact ⟨_, g2.drop j, sub⟩
            · exact ⟨_, (g2.drop j).other (w := w) set_none, sub⟩
          obtain ⟨fp', g3, sub⟩ := g3
          refine ⟨_, F, fp', g3, ⟨Same.refl F, fun d o n z => ?_, fun d o z => ?_, fun d z => .inl (sub d z), fun d o z => .inl z⟩, fun k hk => ?_, q⟩
          · rw [hout d fun mc => n ⟨i, by rw [hlf]; exact inl_of d mc⟩]; exact z
          · by_cases w : V.ref d ∈ vs
            · obtain ⟨b, ws, ws', eb, _, hb', _⟩ := hin _ w
              cases eb
              exact ⟨_, hb'⟩
            · exact ⟨o, by rw [hout d w]; exact z⟩
          · rcases hσ with rfl | ⟨w, rfl⟩
            · rfl
            · exact List.getElem?_set_ne fun z : j = k => hP (by rw [z]; exact hk)
        | succ m =>
          have hi : i' < vs.length := by omega
          refine .inr ⟨⟨vs, vs[i'], .inl (.inl hA), List.getElem?_eq_getElem hi⟩, fun σ'' H'' => i' + 1 + m = vs.length ∧ (σ'' = σ ∨ ∃ w, σ'' = σ.set j w) ∧ (∀ v ∈ vs, ∃ b ws ws', v = .ref b ∧ H b = some (.lst ws) ∧ H'' b = some (.lst ws') ∧ ws'.length ≤ ws.length + (i' + 1)) ∧ (∀ c, V.ref c ∉ vs → H'' c = H c), fun σ'' H'' hN => ⟨m, Nat.lt_succ_self _, hN⟩, fun x H3 hy3 => ?_⟩
          obtain ⟨rfl, f1⟩ := hy3
          have ex := f1 vs (.inl (.inl hA))
          rw [List.getElem?_eq_getElem hi] at ex
          have mx : x ∈ vs := by rw [← Option.some.inj ex]; exact List.getElem_mem hi
          obtain ⟨b, ws, ws', eb, w1, w2, w3⟩ := hin x mx
          obtain ⟨b0, ws0, eb0, v1, _, v3, _⟩ := fact x mx
          subst eb
          cases eb0
          rw [w1] at v1
          cases v1
          have hjl' : j < σ'.length := by rcases hσ with rfl | ⟨w, rfl⟩ <;> simpa using hjl
          refine hw _ _ _ b ws' (List.getElem?_set_self hjl') w2 (by omega) ⟨by omega, .inr ?_, fun v mv => ?_, fun c nc => ?_⟩
          · rcases hσ with rfl | ⟨w, rfl⟩
            · exact ⟨_, rfl⟩
            · exact ⟨_, by rw [List.set_set]⟩
          · obtain ⟨c, u, u', ec, h1', h2', h3'⟩ := hin v mv
            by_cases e : c = b
            · subst e
              rw [w1] at h1'
              cases h1'
              exact ⟨c, ws, ws' ++ [.non], ec, w1, upd_same, by rw [List.length_append, List.length_singleton]; omega⟩
            · exact ⟨c, u, u', ec, h1', by rw [upd_ne e]; exact h2', by omega⟩
          · rw [upd_ne fun z => nc (by rw [z]; exact mx)]
            exact hout c nc
  · exact q.elim
end
section
variable {X : Cx} {B : Hp} {P : List Nat} {x y z : Str} {i j : Nat} {npos py pos p3 apos cpos c2 epos ip iq ir is it iu iv : Pos} {j2 j3 : Nat}
theorem js_pokeA (px : PX X) (hpo : PassesOwn (model X.prog X.w) X.A X.env X.xe) (hx : PE X (.Name x npos) (tVar i)) (hy : PE X (.Name y p3) (tVar j)) (hNj : X.N[j]? = some y) (hg : PG X (.Name y py) (gName j)) (hij : i ≠ j) (hP : j ∉ P)
    (hs2 : ∀ z, foldedSetIterable (.Name x npos) X.env z = pure z := by intro _; rfl)
    (hbase : attributeBase (.Name y p3) "append" X.env (eval (.Name y p3) X.env) = eval (.Name y p3) X.env := by rfl)
    (hfew : ((backTo cpos (starEach [.Constant .none j2 c2] X.env)).all (fun x => !x.1) && (backToKw cpos (keywordEach [] X.env)).all (fun x => x.1.isSome)
      && decide (([.Constant .none j2 c2] : List Expr).length + ([] : List Keyword).length + (if ([] : List Keyword).isEmpty then 0 else 1) < 30)) = true := by rfl)
    (hline : (apos.endLine == cpos.line) = true := by rfl) (hst : starEach [.Constant .none j2 c2] X.env = (false, eval (.Constant .none j2 c2) X.env) :: starEach [] X.env := by rfl) (hplain : (backTo cpos (starEach [] X.env)).any (·.1) = false := by rfl)
    (hs : swapsWith (.Call (.Attribute (.Name y p3) "append" apos) [.Constant .none j2 c2] [] cpos) none epos.line X.env = pure false := by rfl) :
    JSt X B P (.For (.Name y py) (.Name x npos) [.Expr (.Call (.Attribute (.Name y p3) "append" apos) [.Constant .none j2 c2] [] cpos) epos] [] pos) (zPokeAll i j) :=
  js_pokeAll px hpo hx hNj hg hij hP (pss_one (ps_expr (pe_bm PySem.F.plainAttrs_list PySem.F.slot_list_append PySem.F.type_list_append mt_append hy (pa_cons pe_non pa_nil hst) hbase hfew hline hst hplain) hs))
    (fun D σ H b ws h1 h2 h3 q => ⟨.ref b, h1, .inl ⟨rfl, ws, .inl (.inl h2)⟩, b, ws, .non, rfl, rfl, h2, h3, q⟩) hs2
/-- with a look at each: if not isinstance(y, list): return False -/
theorem js_pokeB {r : List Stmt} (px : PX X) (hpo : PassesOwn (model X.prog X.w) X.A X.env X.xe) (hx : PE X (.Name x npos) (tVar i)) (hy1 : PE X (.Name y ip) (tVar j)) (hy : PE X (.Name y p3) (tVar j)) (hNj : X.N[j]? = some y) (hg : PG X (.Name y py) (gName j)) (hij : i ≠ j) (hP : j ∉ P)
    (gi : Gl X "isinstance") (bi : X.mg "isinstance" = none) (gl : Gl X "list") (bl : X.mg "list" = none)
    (hs2 : ∀ z, foldedSetIterable (.Name x npos) X.env z = pure z := by intro _; rfl)
    (hv : bootBuiltins "isinstance" = some (.builtin "isinstance") := by decide +kernel) (hv2 : bootBuiltins "list" = some (.type "list") := by decide +kernel)
    (i1 : starEach [.Name y ip, .Name "list" iq] X.env = (false, eval (.Name y ip) X.env) :: starEach [.Name "list" iq] X.env := by rfl) (i2 : (backTo ir (starEach [.Name "list" iq] X.env)).any (·.1) = false := by rfl)
    (i3 : starEach [.Name "list" iq] X.env = (false, eval (.Name "list" iq) X.env) :: starEach [] X.env := by rfl)
    (i4 : ∀ whole, isTrue (.Call (.Name "isinstance" is) [.Name y ip, .Name "list" iq] [] ir) X.env whole = (do let v ← whole; standAt (Expr.Call (.Name "isinstance" is) [.Name y ip, .Name "list" iq] [] ir).pos; holding [v] (truthy v)) := by intro _; rfl)
    (hbase : attributeBase (.Name y p3) "append" X.env (eval (.Name y p3) X.env) = eval (.Name y p3) X.env := by rfl)
    (hfew : ((backTo cpos (starEach [.Constant .none j2 c2] X.env)).all (fun x => !x.1) && (backToKw cpos (keywordEach [] X.env)).all (fun x => x.1.isSome)
      && decide (([.Constant .none j2 c2] : List Expr).length + ([] : List Keyword).length + (if ([] : List Keyword).isEmpty then 0 else 1) < 30)) = true := by rfl)
    (hline : (apos.endLine == cpos.line) = true := by rfl) (hst : starEach [.Constant .none j2 c2] X.env = (false, eval (.Constant .none j2 c2) X.env) :: starEach [] X.env := by rfl) (hplain : (backTo cpos (starEach [] X.env)).any (·.1) = false := by rfl)
    (hs : swapsWith (.Call (.Attribute (.Name y p3) "append" apos) [.Constant .none j2 c2] [] cpos) none epos.line X.env = pure false := by rfl) :
    JSt X B P (.For (.Name y py) (.Name x npos) [.If (.UnaryOp .Not (.Call (.Name "isinstance" is) [.Name y ip, .Name "list" iq] [] ir) it) r [] iu, .Expr (.Call (.Attribute (.Name y p3) "append" apos) [.Constant .none j2 c2] [] cpos) epos] [] pos) (zPokeAll i j) :=
  js_pokeAll px hpo hx hNj hg hij hP (pss_cons (ps_if (pt_not (pt_val (pe_callB call_isi gi bi hv (pa_cons hy1 (pa_cons (pe_bltn (v := .ty "list") gl bl hv2 rfl (by decide) (by decide)) pa_nil i3) i1) (by decide) (by decide) i1 i2) i4)) pss_never pss_nil)
      (pss_one (ps_expr (pe_bm PySem.F.plainAttrs_list PySem.F.slot_list_append PySem.F.type_list_append mt_append hy (pa_cons pe_non pa_nil hst) hbase hfew hline hst hplain) hs)))
    (fun D σ H b ws h1 h2 h3 q => ⟨.ref b, h1, .ref b, .ty "list", .type "list", .type "list", true, rfl, .ty "list", .base (.lst h2), kit_ty (by decide +kernel), true, rfl,
      ⟨.ref b, h1, .inl ⟨rfl, ws, .inl (.inl h2)⟩, b, ws, .non, rfl, rfl, h2, h3, q⟩⟩) hs2
end
end Pl
/-! The pure layer, part 25: while -/
namespace Pl
open PySem PySem.Spec L2
def whR (t : TPt) (tb : TPS) (D : PEnds) : Nat → Ev → Prop
  | 0, _ => False
  | n + 1, ρ => t ρ fun b ρ' => match b with
    | true => tb { D with nx := fun ρ'' => whR t tb D n ρ'' } ρ'
    | false => D.nx ρ'
def zWhile (t : TPt) (tb : TPS) : TPS := fun D ρ => ∃ n, whR t tb D n ρ
section
variable {X : Cx} {B : Hp} {P : List Nat} {c : Expr} {body : List Stmt} {tc : TPt} {tb : TPS} {pos : Pos}
theorem js_while (hp : PassesOwn (model X.prog X.w) X.A X.env X.xe) (hc : JT X B c tc) (hb : JSs X B P body tb) : JSt X B P (.While c body [] pos) (zWhile tc tb) := by
  refine ⟨fun σ ρ F H fp D gd ⟨n, q⟩ => wS_of (ps_while hp pt_w pss_w) ?_⟩
  refine ⟨fun m σ' H' => ∃ ρ' F' fp', Good (kb X B) σ' ρ' F' H' fp' ∧ Ext F H (inL fp) F' H' (inL fp') ∧ (∀ k ∈ P, σ'[k]? = σ[k]?) ∧ whR tc tb D m ρ',
    ⟨n, ρ, F, fp, gd, Ext.refl, fun _ _ => rfl, q⟩, ?_⟩
  rintro m σ2 H2 ⟨ρ2, F2, fp2, g2, e2, p2, q2⟩
  cases m with
  | zero => exact q2.elim
  | succ m =>
    refine wT_mono (hc.run σ2 ρ2 F2 H2 fp2 _ g2 q2) fun b H3 ⟨ρ3, F3, fp3, g3, e3, q3⟩ => ?_
    cases b with
    | true =>
      rw [if_pos rfl]
      refine ⟨fun σ' H' => ∃ ρ' F' fp', Good (kb X B) σ' ρ' F' H' fp' ∧ Ext F H (inL fp) F' H' (inL fp') ∧ (∀ k ∈ P, σ'[k]? = σ[k]?) ∧ whR tc tb D m ρ', fun σ' H' h => ⟨m, Nat.lt_succ_self _, h⟩, ?_⟩
      refine wSs_mono (hb.run σ2 ρ3 F3 H3 fp3 _ g3 q3) ⟨fun σ5 H5 ⟨ρ5, F5, fp5, g5, e5, p5, q5⟩ => ?_, fun v5 H5 ⟨o, σ5, ρ5, F5, fp5, lo, a1, a2, a3, g5, e5, p5, q5⟩ => ?_, fun _ _ z => z.elim, fun _ _ z => z.elim⟩
      · exact ⟨ρ5, F5, fp5, g5, (e2.trans e3).trans e5, fun k hk => (p5 k hk).trans (p2 k hk), q5⟩
      · exact ⟨o, σ5, ρ5, F5, fp5, lo, a1, a2, a3, g5, (e2.trans e3).trans e5, fun k hk => (p5 k hk).trans (p2 k hk), q5⟩
    | false =>
      rw [if_neg Bool.false_ne_true]
      exact ⟨ρ3, F3, fp3, g3, e2.trans e3, p2, q3⟩
end
section
variable {X : Cx} {B : Hp} {x y z : Str} {px' py pz pt : Pos}
theorem jg_t3 {kk} (i j k : Nat) (nd : PX X) (hNi : X.N[i]? = some x) (hNj : X.N[j]? = some y) (hNk : X.N[k]? = some z) (hx : Loc X.env.scope x) (hy : Loc X.env.scope y) (hz : Loc X.env.scope z)
    (h1 : X.fn x = true ∨ X.env.scope.names.lookup x = some .local := by first | exact .inl rfl | exact .inr rfl) (h2 : X.fn y = true ∨ X.env.scope.names.lookup y = some .local := by first | exact .inl rfl | exact .inr rfl) (h3 : X.fn z = true ∨ X.env.scope.names.lookup z = some .local := by first | exact .inl rfl | exact .inr rfl) : JG X B [i, j, k] (.Tuple [.Name x px', .Name y py, .Name z pz] kk pt) (gTp3 i j k) :=
  jg_tup3 hNi hNj hNk (pg_tup nd.calm (pgs_cons (pg_name nd.nd hNi hx h1) (pgs_cons (pg_name nd.nd hNj hy h2) (pgs_cons (pg_name nd.nd hNk hz h3) pgs_nil))))
end
end Pl
/-! The pure layer, part 26: text.index(sign), a sign that is in it -/
namespace Pl
open PySem PySem.Spec L2
def pSIdx : PM := fun z e Q => match e with
  | .str y => ∃ c, y = sgn c ∧ c ∈ z.cps.toList ∧ ∀ i : Nat, z.cps.toList[i]? = some c → Q (.sh (.int (i : Int)))
  | _ => False
theorem sub_one {z : Str} {c i : Nat} (h : Builtin.Str.subAt z (sgn c) i = true) (hi : i + 1 ≤ z.length) : z.cps.toList[i]? = some c := by
  unfold Builtin.Str.subAt at h
  have e : z.cps.extract i (i + 1) = #[c] := eq_of_beq h
  have hi' : i < z.cps.size := hi
  have e2 := congrArg (fun a : Array Nat => a[0]?) e
  simp only [Array.getElem?_extract] at e2
  rw [Array.getElem?_toList]
  have e3 : 0 < min (i + 1) z.cps.size - i ∧ z.cps[i]? = some c := by simpa using e2
  exact e3.2
theorem s_sidx {K : Kb} : MtS K (fun x xs H Q => ∃ a b i rest, x = .str a ∧ xs = [.str b] ∧ Builtin.Str.occurrences a b 0 a.length 1 = i :: rest ∧ Q (.int (i : Nat)) H) pSIdx := by
  intro F H z w e Q R s rv q k
  unfold pSIdx at q
  split at q
  · obtain ⟨c, rfl, hc, q⟩ := q
    cases rv.str
    have h1 := PyProof.Rows.empty_one z c
    rw [decide_eq_true hc] at h1
    cases ho : Builtin.Str.occurrences z (sgn c) 0 z.length 1 with
    | nil => rw [show (⟨#[c]⟩ : Str) = sgn c from rfl, ho] at h1; cases h1
    | cons i rest =>
      have h2 := StrLaws.occ_spec z (sgn c) 0 z.length 1 i (by rw [ho]; exact List.mem_cons_self ..)
      exact ⟨z, sgn c, i, rest, rfl, rfl, ho, k _ _ (fin_sh s (.int _) (q i (sub_one h2.2 h2.1)))⟩
  · exact q.elim
section
variable {X : Cx} {B : Hp} {a e : Expr} {ta : TPe} {tb : TPx} {pos apos : Pos}
theorem jo_sidx (ha : JE X B a ta) (hb : JX X B e tb) (hs : starEach [e] X.env = [(false, eval e X.env)] := by rfl) (hbase : attributeBase a "index" X.env (eval a X.env) = eval a X.env := by rfl) (hline : (apos.endLine == pos.line) = true := by rfl) :
    JO X B (.Call (.Attribute a "index" apos) [e] [] pos) (oM pSIdx ta tb) := jo_m (fun ha hb => pe_m1 PySem.F.slot_str_index PySem.F.type_str_index mt_sindex ha hb hs hbase hline) s_sidx ha hb
end
end Pl
/-! The pure layer, part 27: x is True, x is not True, of truths -/
namespace Pl
open PySem PySem.Spec L2
def pIsB : P2 := fun d e Q => match d, e with
  | .bool a, .bool b => Q (.sh (.bool (decide (a = b))))
  | _, _ => False
def pNotB : P2 := fun d e Q => match d, e with
  | .bool a, .bool b => Q (.sh (.bool (!decide (a = b))))
  | _, _ => False
theorem s_isB {K : Kb} : Op2S K (fun x y H Q => ∃ a b, x = .bl a ∧ y = .bl b ∧ Q (.bl (decide (a = b))) H) pIsB := by
  intro F H v w d e Q R s rv rw' q k
  unfold pIsB at q
  split at q
  · exact ⟨_, _, rv.bool, rw'.bool, k _ _ (fin_sh s (.bl _) q)⟩
  · exact q.elim
theorem s_notB {K : Kb} : Op2S K (fun x y H Q => ∃ a b, x = .bl a ∧ y = .bl b ∧ Q (.bl (!decide (a = b))) H) pNotB := by
  intro F H v w d e Q R s rv rw' q k
  unfold pNotB at q
  split at q
  · exact ⟨_, _, rv.bool, rw'.bool, k _ _ (fin_sh s (.bl _) q)⟩
  · exact q.elim
section
variable {X : Cx} {B : Hp} {a b : Expr} {ta tb : TPx} {pos : Pos}
theorem jo_isB (ha : JX X B a ta) (hb : JX X B b tb) : JO X B (.Compare a [.Is] [b] pos) (o2 pIsB ta tb) := jo_2 (fun ha hb => pe_cmpR op_is_bl ha hb (nomark _)) s_isB ha hb
theorem jo_notB (ha : JX X B a ta) (hb : JX X B b tb) : JO X B (.Compare a [.IsNot] [b] pos) (o2 pNotB ta tb) := jo_2 (fun ha hb => pe_cmpR op_isnot_bl ha hb (nomark _)) s_notB ha hb
theorem jt_isB (ha : JX X B a ta) (hb : JX X B b tb) : JT X B (.Compare a [.Is] [b] pos) (bO (o2 pIsB ta tb)) := jt_2 (fun ha hb => pt_cmpR op_is_bl ha hb (nomark _)) s_isB ha hb
theorem jt_notB (ha : JX X B a ta) (hb : JX X B b tb) : JT X B (.Compare a [.IsNot] [b] pos) (bO (o2 pNotB ta tb)) := jt_2 (fun ha hb => pt_cmpR op_isnot_bl ha hb (nomark _)) s_notB ha hb
end
end Pl
/-! The pure layer, part 28: str(x), x a number, a text, a list or a tuple of such -/
namespace Pl
open PySem PySem.Spec L2
def okShow (d : PyData) : Prop := d.showable = true ∧ d.hasDict = false ∧ d.depth ≤ 64 ∧ d.shown.length ≤ sizeLine
/-- what str(x) tells -/
def strP (d : PyData) (Q : Str → Prop) : Prop := match d with
  | .none => Q "None"
  | .bool b => Q (if b then "True" else "False")
  | .int i => i.natAbs.log2 < 1920 ∧ Q (toString i)
  | .str a => Q a
  | .list ds => okShow (.list ds) ∧ Q (PyData.list ds).shown
  | .tuple ds => okShow (.tuple ds) ∧ Q (PyData.tuple ds).shown
  | _ => False
def rStrD (K : PySem.W.Frag) : List V → Hp → VK → Prop := fun xs H Q => ∃ x d, xs = [x] ∧ Dp K H x d ∧ strP d fun z => Q (.str z) H
section
variable {X : Cx}
theorem call_strD (px : PX X) : CallR X (.type "str") (rStrD X.K) := by
  intro pins s σ H xs us Q I r h
  obtain ⟨x, d, rfl, hd, q⟩ := h
  have hu := px.hu
  cases d with
  | none =>
    cases hd
    obtain ⟨u, rfl, r1⟩ := vals1 r
    cases r1
    exact PySem.P.str_of_none ⟨.str _, H, I.tok _, ⟨_, rfl⟩, q⟩
  | bool b =>
    cases hd
    obtain ⟨u, rfl, r1⟩ := vals1 r
    cases r1
    exact PySem.P.str_of_bool ⟨.str _, H, I.tok _, ⟨_, rfl⟩, q⟩
  | dict _ => exact q.elim
  | int i =>
    cases hd
    exact call_str_int pins s σ H _ us Q I r ⟨i, rfl, q.1, q.2⟩
  | str a =>
    cases hd
    exact SkE.call_str_str pins s σ H _ us Q I r ⟨_, rfl, q⟩
  | list ds =>
    obtain ⟨⟨h1, h2, h3, h4⟩, q⟩ := q
    cases r with
    | cons r1 rr =>
      cases rr
      obtain ⟨as, ra⟩ := Dp.reads I _ _ _ hd r1
      obtain ⟨a, rfl⟩ := PyProof.Rows.isRef_of_reads ra rfl
      exact str_of_reads ra h1 (PyData.noDict_hsm h2) px.gd (by omega) (fun _ _ e => e) (fun h' u tk hk => ⟨.str _, H, I.kept hk, ⟨u, rfl⟩, q⟩) h4
  | tuple ds =>
    obtain ⟨⟨h1, h2, h3, h4⟩, q⟩ := q
    cases r with
    | cons r1 rr =>
      cases rr
      obtain ⟨as, ra⟩ := Dp.reads I _ _ _ hd r1
      obtain ⟨a, rfl⟩ := PyProof.Rows.isRef_of_reads ra rfl
      exact str_of_reads ra h1 (PyData.noDict_hsm h2) px.gd (by omega) (fun _ _ e => e) (fun h' u tk hk => ⟨.str _, H, I.kept hk, ⟨u, rfl⟩, q⟩) h4
end
end Pl
namespace Pl
open PySem PySem.Spec L2
def pStr : PN := fun ds Q => match ds with
  | [d] => strP (er d) fun z => Q (.sh (.str z))
  | _ => False
theorem strP_mono {d : PyData} {Q Q' : Str → Prop} (h : strP d Q) (k : ∀ z, Q z → Q' z) : strP d Q' := by
  cases d with
  | none => exact k _ h
  | bool b => exact k _ h
  | dict _ => exact h.elim
  | int i => exact ⟨h.1, k _ h.2⟩
  | str a => exact k _ h
  | list ds => exact ⟨h.1, k _ h.2⟩
  | tuple ds => exact ⟨h.1, k _ h.2⟩
theorem s_str {K : Kb} : OpNS K (rStrD K.K) pStr := by
  intro F H vs ds Q R s rv q k
  unfold pStr at q
  split at q
  · cases rv with
    | cons r rr =>
      cases rr
      exact ⟨_, _, rfl, (r.dpH s).dp, strP_mono q fun z qz => k _ _ (fin_sh s (.str z) qz)⟩
  · exact q.elim
section
variable {X : Cx} {B : Hp} {e : Expr} {ta : TPx} {p pos : Pos}
theorem jo_str1 (px : PX X) (hg : Gl X "str") (hm : X.mg "str" = none) (h : JX X B e ta) (he : starEach [e] X.env = (false, eval e X.env) :: starEach [] X.env := by rfl) (hpl : (backTo pos (starEach [] X.env)).any (·.1) = false := by rfl) :
    JO X B (.Call (.Name "str" p) [e] [] pos) (oN pStr (s1 ta)) := jo_N (fun h => pe_callTy (call_strD px) hg hm PyProof.Rows.boot_str h (by decide) (by decide) he hpl) s_str (js_1 h he)
end
end Pl
namespace Tx
open PySem PySem.Spec L2 Pl
abbrev N_word_place : List Str := ["word"]
def r_word_place_1 : TPS :=
  zRet (oTup (sCons (xE (eO (oN pLen (s1 (xV 0))))) (sCons (xE (eV 0)) (sNil))))
def r_word_place : TPS :=
  zSeq (r_word_place_1)
  (zNx)
abbrev N_pattern_place : List Str := ["pattern", "places", "part"]
def r_pattern_place_3 (C_word_place : Con) : TPS :=
  zRet (oTup (sCons (xE (eO (oN pLen (s1 (xV 0))))) (sCons (xE (eV 1)) (sNil))))
def r_pattern_place_2a_1a_1 (C_word_place : Con) : TPS :=
  zApp 1 (eO (oTup (sCons (xE (eC (.int 0))) (sCons (xE (eO (oCall C_word_place [] (sCons (xE (eO (o2 pIx (xV 2) (xE (eC (.int 1)))))) (sNil))))) (sNil)))))
def r_pattern_place_2a_1b_1 (C_word_place : Con) : TPS :=
  zApp 1 (eO (oTup (sCons (xE (eC (.int 1))) (sCons (xE (eO (oTup (sCons (xE (eO (oTIx (eC (.tuple ((["number", "name", "any"] : List Str).map .str))) (xE (eO (o2 pIx (xV 2) (xE (eC (.int 1))))))))) (sCons (xE (eC (.str ""))) (sNil)))))) (sNil)))))
def r_pattern_place_2a_1 (C_word_place : Con) : TPS :=
  zIf (bO (o2 pEq (xE (eO (o2 pIx (xV 2) (xE (eC (.int 0)))))) (xE (eC (.str "word")))))
  (zSeq (r_pattern_place_2a_1a_1 C_word_place)
  (zNx))
  (zSeq (r_pattern_place_2a_1b_1 C_word_place)
  (zNx))
def r_pattern_place_2f (C_word_place : Con) : TPS :=
  zSeq (r_pattern_place_2a_1 C_word_place)
  (zNx)
def r_pattern_place_2 (C_word_place : Con) : TPS :=
  zFor (iSq (eV 0)) (gNm 2)
  (r_pattern_place_2f C_word_place)
def r_pattern_place_1 (C_word_place : Con) : TPS :=
  zSet 1 (oLst (sNil))
def r_pattern_place (C_word_place : Con) : TPS :=
  zSeq (r_pattern_place_1 C_word_place)
  (zSeq (r_pattern_place_2 C_word_place)
  (zSeq (r_pattern_place_3 C_word_place)
  (zNx)))
abbrev N_ordered : List Str := ["patterns", "found", "pattern", "place"]
def r_ordered_2 (C_pattern_place : Con) : TPS :=
  zRet (oLc (iSq (eV 1)) (gTp2 3 2) (tYes') (eV 2) [3, 2])
def r_ordered_1 (C_pattern_place : Con) : TPS :=
  zSet 1 (oN pSort (s1 (xE (eO (oLc (iSq (eV 0)) (gNm 2) (tYes') (eO (oTup (sCons (xE (eO (oCall C_pattern_place [] (sCons (xE (eV 2)) (sNil))))) (sCons (xE (eO (oN pList (s1 (xV 2))))) (sNil))))) [2])))))
def r_ordered (C_pattern_place : Con) : TPS :=
  zSeq (r_ordered_1 C_pattern_place)
  (zSeq (r_ordered_2 C_pattern_place)
  (zNx))
abbrev N__law_deck : List Str := ["cell", "turn"]
def r__law_deck_2 : TPS :=
  zRet (oLst (sCons (xE (eC (.int 0))) (sCons (xE (eO (o2 pMod (xV 0) (xE (eC (.int 2147483579)))))) (sCons (xE (eV 1)) (sNil)))))
def r__law_deck_1a_1 : TPS :=
  zRet (oLst (sCons (xE (eO (o2 pSub (xV 0) (xE (eO (o2 pPow (xE (eC (.int 10))) (xE (eC (.int 18))))))))) (sCons (xE (eO (o2 pMod (xV 0) (xE (eC (.int 2147483579)))))) (sCons (xE (eV 1)) (sNil)))))
def r__law_deck_1 : TPS :=
  zIf (bO (o2 pGe (xV 0) (xE (eO (o2 pPow (xE (eC (.int 10))) (xE (eC (.int 18))))))))
  (zSeq (r__law_deck_1a_1)
  (zNx))
  (zNx)
def r__law_deck : TPS :=
  zSeq (r__law_deck_1)
  (zSeq (r__law_deck_2)
  (zNx))
abbrev N__law_pick : List Str := ["deck", "many", "found", "number"]
def r__law_pick_6 : TPS :=
  zRet (o2 pMod (xV 2) (xV 1))
def r__law_pick_5a_1 : TPS :=
  zRet (o2 pMod (xE (eO (o2 pAdd (xE (eO (o2 pMul (xV 2) (xE (eC (.int 2147483563)))))) (xV 3)))) (xV 1))
def r__law_pick_5 : TPS :=
  zIf (bO (o2 pGt (xV 1) (xE (eC (.int 1000000)))))
  (zSeq (r__law_pick_5a_1)
  (zNx))
  (zNx)
def r__law_pick_4 : TPS :=
  zSet 2 (o2 pDiv (xE (eO (o2 pMod (xE (eO (o2 pPow (xE (eO (o2 pAdd (xV 3) (xE (eO (o2 pMul (xE (eC (.int 7919))) (xE (eO (o2 pIx (xV 0) (xE (eC (.int 2)))))))))))) (xE (eC (.int 3)))))) (xE (eC (.int 2147483629)))))) (xE (eC (.int 32))))
def r__law_pick_3 : TPS :=
  zSet 3 (o2 pMod (xE (eO (o2 pPow (xE (eO (o2 pAdd (xE (eO (o2 pIx (xV 0) (xE (eC (.int 1)))))) (xE (eO (o2 pMul (xE (eC (.int 15485867))) (xE (eO (o2 pIx (xV 0) (xE (eC (.int 2)))))))))))) (xE (eC (.int 5)))))) (xE (eC (.int 2147483647))))
def r__law_pick_2 : TPS :=
  zPut 0 (eO (o2 pAdd (xE (eO (o2 pIx (xV 0) (xE (eC (.int 2)))))) (xE (eC (.int 1))))) (xE (eC (.int 2)))
def r__law_pick_1a_3 : TPS :=
  zRet (oV 2)
def r__law_pick_1a_2 : TPS :=
  zPut 0 (eO (o2 pDiv (xE (eO (o2 pIx (xV 0) (xE (eC (.int 0)))))) (xV 1))) (xE (eC (.int 0)))
def r__law_pick_1a_1 : TPS :=
  zSet 2 (o2 pMod (xE (eO (o2 pIx (xV 0) (xE (eC (.int 0)))))) (xV 1))
def r__law_pick_1 : TPS :=
  zIf (bO (o2 pGt (xE (eO (o2 pIx (xV 0) (xE (eC (.int 0)))))) (xE (eC (.int 1)))))
  (zSeq (r__law_pick_1a_1)
  (zSeq (r__law_pick_1a_2)
  (zSeq (r__law_pick_1a_3)
  (zNx))))
  (zNx)
def r__law_pick : TPS :=
  zSeq (r__law_pick_1)
  (zSeq (r__law_pick_2)
  (zSeq (r__law_pick_3)
  (zSeq (r__law_pick_4)
  (zSeq (r__law_pick_5)
  (zSeq (r__law_pick_6)
  (zNx))))))
abbrev N__law_kind : List Str := ["word", "figures", "sign"]
def r__law_kind_3 : TPS :=
  zRet (oIf (bO (o2 pEq (xE (eO (oLc (iSt (eV 0)) (gNm 2) (tNot (bO (oCh pLe pLe (xE (eC (.str "a"))) (xV 2) (xE (eC (.str "z")))))) (eV 2) [2]))) (xE (eO (oLst (sNil)))))) (oE (eC (.str "name"))) (oE (eC (.str "other"))))
def r__law_kind_2a_1 : TPS :=
  zRet (oE (eC (.str "number")))
def r__law_kind_2 : TPS :=
  zIf (tAnd (bO (o2 pNe (xV 1) (xE (eC (.str ""))))) (bO (o2 pEq (xE (eO (oLc (iSt (eV 1)) (gNm 2) (tNot (bO (oCh pLe pLe (xE (eC (.str "0"))) (xV 2) (xE (eC (.str "9")))))) (eV 2) [2]))) (xE (eO (oLst (sNil)))))))
  (zSeq (r__law_kind_2a_1)
  (zNx))
  (zNx)
def r__law_kind_1 : TPS :=
  zSet 1 (oIf (bO (o2 pEq (xE (eO (oSl (xV 0) (tP0) (tP1 (eC (.int 1)))))) (xE (eC (.str "-"))))) (oSl (xV 0) (tP1 (eC (.int 1))) (tP0)) (oE (eV 0)))
def r__law_kind : TPS :=
  zSeq (r__law_kind_1)
  (zSeq (r__law_kind_2)
  (zSeq (r__law_kind_3)
  (zNx)))
abbrev N__law_fits_part : List Str := ["part", "word"]
def r__law_fits_part_2 (C__law_kind : Con) : TPS :=
  zRet (o2 (pIn false) (xE (eO (o2 pIx (xV 0) (xE (eC (.int 1)))))) (xE (eO (oTup (sCons (xE (eC (.str "any"))) (sCons (xE (eO (oCall C__law_kind [] (sCons (xE (eV 1)) (sNil))))) (sNil)))))))
def r__law_fits_part_1a_1 (C__law_kind : Con) : TPS :=
  zRet (o2 pEq (xE (eO (o2 pIx (xV 0) (xE (eC (.int 1)))))) (xV 1))
def r__law_fits_part_1 (C__law_kind : Con) : TPS :=
  zIf (bO (o2 pEq (xE (eO (o2 pIx (xV 0) (xE (eC (.int 0)))))) (xE (eC (.str "word")))))
  (zSeq (r__law_fits_part_1a_1 C__law_kind)
  (zNx))
  (zNx)
def r__law_fits_part (C__law_kind : Con) : TPS :=
  zSeq (r__law_fits_part_1 C__law_kind)
  (zSeq (r__law_fits_part_2 C__law_kind)
  (zNx))
abbrev N__law_fits : List Str := ["pattern", "line", "words", "part", "word"]
def r__law_fits_3 (C__law_fits_part : Con) : TPS :=
  zRet (o2 pEq (xE (eO (oLc (iZp (eV 0) (eV 2)) (gTp2 3 4) (tNot (bO (oCall C__law_fits_part [] (sCons (xE (eV 3)) (sCons (xE (eV 4)) (sNil)))))) (eC (.int 1)) [3, 4]))) (xE (eO (oLst (sNil)))))
def r__law_fits_2a_1 (C__law_fits_part : Con) : TPS :=
  zRet (oE (eC (.bool false)))
def r__law_fits_2 (C__law_fits_part : Con) : TPS :=
  zIf (bO (o2 pNe (xE (eO (oN pLen (s1 (xV 2))))) (xE (eO (oN pLen (s1 (xV 0)))))))
  (zSeq (r__law_fits_2a_1 C__law_fits_part)
  (zNx))
  (zNx)
def r__law_fits_1 (C__law_fits_part : Con) : TPS :=
  zSet 2 (oM pSplit (eV 1) (xE (eC (.str " "))))
def r__law_fits (C__law_fits_part : Con) : TPS :=
  zSeq (r__law_fits_1 C__law_fits_part)
  (zSeq (r__law_fits_2 C__law_fits_part)
  (zSeq (r__law_fits_3 C__law_fits_part)
  (zNx)))
abbrev N__law_word : List Str := ["deck", "way", "some", "k"]
def r__law_word_6 (C__law_pick : Con) : TPS :=
  zRet (oM pJoin (eC (.str "")) (xE (eO (oLc (iRg1 (xE (eO (o2 pAdd (xE (eC (.int 1))) (xE (eO (oCall C__law_pick [] (sCons (xV 0) (sCons (xE (eC (.int 4))) (sNil)))))))))) (gNm 3) (tYes') (eO (o2 pIx (xV 2) (xE (eO (oCall C__law_pick [] (sCons (xV 0) (sCons (xE (eO (oN pLen (s1 (xV 2))))) (sNil)))))))) [3]))))
def r__law_word_5 (C__law_pick : Con) : TPS :=
  zSet 2 (o2 pIx (xE (eO (oLst (sCons (xE (eC (.str "abcdefghijklmnopqrstuvwxyz"))) (sCons (xE (eC (.str "0123456789"))) (sCons (xE (eC (.str "-09az"))) (sCons (xE (eC (.str "!\"#$&'()*+,-./:;<=>?@AZ[\\]^_{|}~"))) (sNil)))))))) (xE (eO (o2 pSub (xV 1) (xE (eC (.int 8)))))))
def r__law_word_4a_1 (C__law_pick : Con) : TPS :=
  zRet (o2 pIx (xE (eO (oLst (sCons (xE (eC (.str "id=4"))) (sCons (xE (eC (.str "<any>"))) (sCons (xE (eC (.str "="))) (sCons (xE (eC (.str "x1"))) (sCons (xE (eC (.str "-"))) (sCons (xE (eC (.str "A"))) (sCons (xE (eC (.str "<"))) (sCons (xE (eC (.str "none"))) (sNil)))))))))))) (xE (eO (oCall C__law_pick [] (sCons (xV 0) (sCons (xE (eC (.int 8))) (sNil)))))))
def r__law_word_4 (C__law_pick : Con) : TPS :=
  zIf (bO (o2 pLt (xV 1) (xE (eC (.int 8)))))
  (zSeq (r__law_word_4a_1 C__law_pick)
  (zNx))
  (zNx)
def r__law_word_3a_1 (C__law_pick : Con) : TPS :=
  zRet (o2 pIx (xE (eO (oLst (sCons (xE (eC (.str "0"))) (sCons (xE (eC (.str "7"))) (sCons (xE (eC (.str "12"))) (sCons (xE (eC (.str "-3"))) (sCons (xE (eC (.str "007"))) (sNil))))))))) (xE (eO (oCall C__law_pick [] (sCons (xV 0) (sCons (xE (eC (.int 5))) (sNil)))))))
def r__law_word_3 (C__law_pick : Con) : TPS :=
  zIf (bO (o2 pLt (xV 1) (xE (eC (.int 6)))))
  (zSeq (r__law_word_3a_1 C__law_pick)
  (zNx))
  (zNx)
def r__law_word_2a_1 (C__law_pick : Con) : TPS :=
  zRet (o2 pIx (xE (eO (oLst (sCons (xE (eC (.str "get"))) (sCons (xE (eC (.str "put"))) (sCons (xE (eC (.str "a"))) (sNil))))))) (xE (eO (oCall C__law_pick [] (sCons (xV 0) (sCons (xE (eC (.int 3))) (sNil)))))))
def r__law_word_2 (C__law_pick : Con) : TPS :=
  zIf (bO (o2 pLt (xV 1) (xE (eC (.int 3)))))
  (zSeq (r__law_word_2a_1 C__law_pick)
  (zNx))
  (zNx)
def r__law_word_1 (C__law_pick : Con) : TPS :=
  zSet 1 (oCall C__law_pick [] (sCons (xV 0) (sCons (xE (eC (.int 12))) (sNil))))
def r__law_word (C__law_pick : Con) : TPS :=
  zSeq (r__law_word_1 C__law_pick)
  (zSeq (r__law_word_2 C__law_pick)
  (zSeq (r__law_word_3 C__law_pick)
  (zSeq (r__law_word_4 C__law_pick)
  (zSeq (r__law_word_5 C__law_pick)
  (zSeq (r__law_word_6 C__law_pick)
  (zNx))))))
abbrev N__law_line : List Str := ["deck", "most", "k"]
def r__law_line_1 (C__law_pick : Con) (C__law_word : Con) : TPS :=
  zRet (oM pJoin (eC (.str " ")) (xE (eO (oLc (iRg1 (xE (eO (o2 pAdd (xE (eC (.int 1))) (xE (eO (oCall C__law_pick [] (sCons (xV 0) (sCons (xE (eV 1)) (sNil)))))))))) (gNm 2) (tYes') (eO (oCall C__law_word [] (sCons (xV 0) (sNil)))) [2]))))
def r__law_line (C__law_pick : Con) (C__law_word : Con) : TPS :=
  zSeq (r__law_line_1 C__law_pick C__law_word)
  (zNx)
abbrev N__law_lines : List Str := ["deck", "most", "shapes", "found", "k", "words", "turn"]
def r__law_lines_4 (C__law_pick : Con) (C__law_word : Con) (C__law_line : Con) : TPS :=
  zRet (oSl (xV 3) (tP0) (tP1 (eV 1)))
def r__law_lines_3a_4a_1 (C__law_pick : Con) (C__law_word : Con) (C__law_line : Con) : TPS :=
  zApp 3 (eO (o2 pIx (xV 3) (xE (eO (oCall C__law_pick [] (sCons (xV 0) (sCons (xE (eO (oN pLen (s1 (xV 3))))) (sNil))))))))
def r__law_lines_3a_4 (C__law_pick : Con) (C__law_word : Con) (C__law_line : Con) : TPS :=
  zIf (bO (o2 pEq (xE (eO (oCall C__law_pick [] (sCons (xV 0) (sCons (xE (eC (.int 6))) (sNil)))))) (xE (eC (.int 0)))))
  (zSeq (r__law_lines_3a_4a_1 C__law_pick C__law_word C__law_line)
  (zNx))
  (zNx)
def r__law_lines_3a_3 (C__law_pick : Con) (C__law_word : Con) (C__law_line : Con) : TPS :=
  zApp 3 (eO (oM pJoin (eC (.str " ")) (xV 5)))
def r__law_lines_3a_2a_1 (C__law_pick : Con) (C__law_word : Con) (C__law_line : Con) : TPS :=
  zPut 5 (eO (oCall C__law_word [] (sCons (xV 0) (sNil)))) (xE (eO (oCall C__law_pick [] (sCons (xV 0) (sCons (xE (eO (oN pLen (s1 (xV 5))))) (sNil))))))
def r__law_lines_3a_2f (C__law_pick : Con) (C__law_word : Con) (C__law_line : Con) : TPS :=
  zSeq (r__law_lines_3a_2a_1 C__law_pick C__law_word C__law_line)
  (zNx)
def r__law_lines_3a_2 (C__law_pick : Con) (C__law_word : Con) (C__law_line : Con) : TPS :=
  zFor (iRg1 (xE (eO (oCall C__law_pick [] (sCons (xV 0) (sCons (xE (eC (.int 3))) (sNil))))))) (gNm 6)
  (r__law_lines_3a_2f C__law_pick C__law_word C__law_line)
def r__law_lines_3a_1 (C__law_pick : Con) (C__law_word : Con) (C__law_line : Con) : TPS :=
  zSet 5 (oN pList (s1 (xE (eO (o2 pIx (xV 2) (xE (eO (oCall C__law_pick [] (sCons (xV 0) (sCons (xE (eO (oN pLen (s1 (xV 2))))) (sNil)))))))))))
def r__law_lines_3f (C__law_pick : Con) (C__law_word : Con) (C__law_line : Con) : TPS :=
  zSeq (r__law_lines_3a_1 C__law_pick C__law_word C__law_line)
  (zSeq (r__law_lines_3a_2 C__law_pick C__law_word C__law_line)
  (zSeq (r__law_lines_3a_3 C__law_pick C__law_word C__law_line)
  (zSeq (r__law_lines_3a_4 C__law_pick C__law_word C__law_line)
  (zNx))))
def r__law_lines_3 (C__law_pick : Con) (C__law_word : Con) (C__law_line : Con) : TPS :=
  zFor (iRg1 (xE (eO (oCall C__law_pick [] (sCons (xV 0) (sCons (xE (eO (o2 pAdd (xV 1) (xE (eC (.int 1)))))) (sNil))))))) (gNm 4)
  (r__law_lines_3f C__law_pick C__law_word C__law_line)
def r__law_lines_2 (C__law_pick : Con) (C__law_word : Con) (C__law_line : Con) : TPS :=
  zSet 3 (oLst (sNil))
def r__law_lines_1 (C__law_pick : Con) (C__law_word : Con) (C__law_line : Con) : TPS :=
  zSet 2 (oLc (iRg1 (xE (eO (o2 pAdd (xE (eC (.int 1))) (xE (eO (oCall C__law_pick [] (sCons (xV 0) (sCons (xE (eC (.int 3))) (sNil)))))))))) (gNm 4) (tYes') (eO (oM pSplit (eO (oCall C__law_line [] (sCons (xV 0) (sCons (xE (eO (o2 pIx (xE (eO (oLst (sCons (xE (eC (.int 3))) (sCons (xE (eC (.int 6))) (sCons (xE (eC (.int 12))) (sNil))))))) (xE (eO (oCall C__law_pick [] (sCons (xV 0) (sCons (xE (eC (.int 3))) (sNil))))))))) (sNil))))) (xE (eC (.str " "))))) [4])
def r__law_lines (C__law_pick : Con) (C__law_word : Con) (C__law_line : Con) : TPS :=
  zSeq (r__law_lines_1 C__law_pick C__law_word C__law_line)
  (zSeq (r__law_lines_2 C__law_pick C__law_word C__law_line)
  (zSeq (r__law_lines_3 C__law_pick C__law_word C__law_line)
  (zSeq (r__law_lines_4 C__law_pick C__law_word C__law_line)
  (zNx))))
abbrev N__law_pattern : List Str := ["deck", "line", "found", "word", "kind", "way"]
def r__law_pattern_3 (C__law_pick : Con) (C__law_kind : Con) : TPS :=
  zRet (oV 2)
def r__law_pattern_2a_3a_1 (C__law_pick : Con) (C__law_kind : Con) : TPS :=
  zApp 2 (eO (oTup (sCons (xE (eC (.str "word"))) (sCons (xE (eV 3)) (sNil)))))
def r__law_pattern_2a_3b_1a_1 (C__law_pick : Con) (C__law_kind : Con) : TPS :=
  zApp 2 (eO (oTup (sCons (xE (eC (.str "hole"))) (sCons (xE (eV 4)) (sNil)))))
def r__law_pattern_2a_3b_1b_1 (C__law_pick : Con) (C__law_kind : Con) : TPS :=
  zApp 2 (eO (oTup (sCons (xE (eC (.str "hole"))) (sCons (xE (eC (.str "any"))) (sNil)))))
def r__law_pattern_2a_3b_1 (C__law_pick : Con) (C__law_kind : Con) : TPS :=
  zIf (tAnd (bO (o2 pLt (xV 5) (xE (eC (.int 5))))) (bO (o2 pNe (xV 4) (xE (eC (.str "other"))))))
  (zSeq (r__law_pattern_2a_3b_1a_1 C__law_pick C__law_kind)
  (zNx))
  (zSeq (r__law_pattern_2a_3b_1b_1 C__law_pick C__law_kind)
  (zNx))
def r__law_pattern_2a_3 (C__law_pick : Con) (C__law_kind : Con) : TPS :=
  zIf (bO (o2 pLt (xV 5) (xE (eC (.int 3)))))
  (zSeq (r__law_pattern_2a_3a_1 C__law_pick C__law_kind)
  (zNx))
  (zSeq (r__law_pattern_2a_3b_1 C__law_pick C__law_kind)
  (zNx))
def r__law_pattern_2a_2 (C__law_pick : Con) (C__law_kind : Con) : TPS :=
  zSet 5 (oCall C__law_pick [] (sCons (xV 0) (sCons (xE (eC (.int 6))) (sNil))))
def r__law_pattern_2a_1 (C__law_pick : Con) (C__law_kind : Con) : TPS :=
  zSet 4 (oCall C__law_kind [] (sCons (xE (eV 3)) (sNil)))
def r__law_pattern_2f (C__law_pick : Con) (C__law_kind : Con) : TPS :=
  zSeq (r__law_pattern_2a_1 C__law_pick C__law_kind)
  (zSeq (r__law_pattern_2a_2 C__law_pick C__law_kind)
  (zSeq (r__law_pattern_2a_3 C__law_pick C__law_kind)
  (zNx)))
def r__law_pattern_2 (C__law_pick : Con) (C__law_kind : Con) : TPS :=
  zFor (iSq (eO (oM pSplit (eV 1) (xE (eC (.str " ")))))) (gNm 3)
  (r__law_pattern_2f C__law_pick C__law_kind)
def r__law_pattern_1 (C__law_pick : Con) (C__law_kind : Con) : TPS :=
  zSet 2 (oLst (sNil))
def r__law_pattern (C__law_pick : Con) (C__law_kind : Con) : TPS :=
  zSeq (r__law_pattern_1 C__law_pick C__law_kind)
  (zSeq (r__law_pattern_2 C__law_pick C__law_kind)
  (zSeq (r__law_pattern_3 C__law_pick C__law_kind)
  (zNx)))
abbrev N__law_place : List Str := ["pattern", "kinds", "found", "part"]
def r__law_place_4 : TPS :=
  zRet (oTup (sCons (xE (eO (o2 pIx (xV 2) (xE (eC (.int 0)))))) (sCons (xE (eO (oSl (xV 2) (tP1 (eC (.int 1))) (tP0)))) (sNil))))
def r__law_place_3a_1 : TPS :=
  zApp 2 (eIf (bO (o2 pEq (xE (eO (o2 pIx (xV 3) (xE (eC (.int 0)))))) (xE (eC (.str "word"))))) (eO (oTup (sCons (xE (eC (.int 0))) (sCons (xE (eO (oN pLen (s1 (xE (eO (o2 pIx (xV 3) (xE (eC (.int 1)))))))))) (sCons (xE (eO (o2 pIx (xV 3) (xE (eC (.int 1)))))) (sNil)))))) (eO (oTup (sCons (xE (eDg 1 (eO (o2 pIx (xV 3) (xE (eC (.int 1))))))) (sCons (xE (eC (.int 0))) (sCons (xE (eC (.str ""))) (sNil)))))))
def r__law_place_3f : TPS :=
  zSeq (r__law_place_3a_1)
  (zNx)
def r__law_place_3 : TPS :=
  zFor (iSq (eV 0)) (gNm 3)
  (r__law_place_3f)
def r__law_place_2 : TPS :=
  zSet 2 (oLst (sCons (xE (eO (oN pLen (s1 (xV 0))))) (sNil)))
def r__law_place_1 : TPS :=
  zSet 1 (oDc [.inr "number", .inr "name", .inr "any"] [.int (1), .int (2), .int (3)])
def r__law_place : TPS :=
  zSeq (r__law_place_1)
  (zSeq (r__law_place_2)
  (zSeq (r__law_place_3)
  (zSeq (r__law_place_4)
  (zNx))))
abbrev N__law_ordered : List Str := ["patterns", "some", "number", "pattern", "place"]
def r__law_ordered_2 (C__law_place : Con) : TPS :=
  zRet (oLc (iSq (eV 1)) (gTp2 4 2) (tYes') (eO (oN pList (s1 (xE (eO (o2 pIx (xV 0) (xV 2))))))) [4, 2])
def r__law_ordered_1 (C__law_place : Con) : TPS :=
  zSet 1 (oN pSort (s1 (xE (eO (oLc (iEn (eV 0)) (gTp2 2 3) (tYes') (eO (oTup (sCons (xE (eO (oCall C__law_place [] (sCons (xE (eV 3)) (sNil))))) (sCons (xE (eV 2)) (sNil))))) [2, 3])))))
def r__law_ordered (C__law_place : Con) : TPS :=
  zSeq (r__law_ordered_1 C__law_place)
  (zSeq (r__law_ordered_2 C__law_place)
  (zNx))
abbrev N_kind_of : List Str := ["word", "figures", "sign"]
def r_kind_of_5 : TPS :=
  zRet (oE (eC (.str "other")))
def r_kind_of_4a_1 : TPS :=
  zRet (oE (eC (.str "name")))
def r_kind_of_4 : TPS :=
  zIf (bO (oN pAll (s1 (xE (eO (oLc (iSt (eV 0)) (gNm 2) (tYes') (eO (oCh pLe pLe (xE (eC (.str "a"))) (xV 2) (xE (eC (.str "z"))))) [2]))))))
  (zSeq (r_kind_of_4a_1)
  (zNx))
  (zNx)
def r_kind_of_3a_1 : TPS :=
  zRet (oE (eC (.str "number")))
def r_kind_of_3 : TPS :=
  zIf (tAnd (bO (o2 pNe (xV 1) (xE (eC (.str ""))))) (bO (oN pAll (s1 (xE (eO (oLc (iSt (eV 1)) (gNm 2) (tYes') (eO (o2 (pIn false) (xV 2) (xE (eC (.str "0123456789"))))) [2])))))))
  (zSeq (r_kind_of_3a_1)
  (zNx))
  (zNx)
def r_kind_of_2a_1 : TPS :=
  zSet 1 (oSl (xV 0) (tP1 (eC (.int 1))) (tP0))
def r_kind_of_2 : TPS :=
  zIf (bO (o2 pEq (xE (eO (oSl (xV 0) (tP0) (tP1 (eC (.int 1)))))) (xE (eC (.str "-")))))
  (zSeq (r_kind_of_2a_1)
  (zNx))
  (zNx)
def r_kind_of_1 : TPS :=
  zSet 1 (oE (eV 0))
def r_kind_of : TPS :=
  zSeq (r_kind_of_1)
  (zSeq (r_kind_of_2)
  (zSeq (r_kind_of_3)
  (zSeq (r_kind_of_4)
  (zSeq (r_kind_of_5)
  (zNx)))))
abbrev N_words_of : List Str := ["line"]
def r_words_of_1 : TPS :=
  zRet (oM pSplit (eV 0) (xE (eC (.str " "))))
def r_words_of : TPS :=
  zSeq (r_words_of_1)
  (zNx)
abbrev N_fits_part : List Str := ["part", "word"]
def r_fits_part_2 (C_kind_of : Con) : TPS :=
  zRet (oE (eOr (eO (o2 pEq (xE (eO (o2 pIx (xV 0) (xE (eC (.int 1)))))) (xE (eC (.str "any"))))) (eO (o2 pEq (xE (eO (o2 pIx (xV 0) (xE (eC (.int 1)))))) (xE (eO (oCall C_kind_of [] (sCons (xE (eV 1)) (sNil)))))))))
def r_fits_part_1a_1 (C_kind_of : Con) : TPS :=
  zRet (o2 pEq (xE (eO (o2 pIx (xV 0) (xE (eC (.int 1)))))) (xV 1))
def r_fits_part_1 (C_kind_of : Con) : TPS :=
  zIf (bO (o2 pEq (xE (eO (o2 pIx (xV 0) (xE (eC (.int 0)))))) (xE (eC (.str "word")))))
  (zSeq (r_fits_part_1a_1 C_kind_of)
  (zNx))
  (zNx)
def r_fits_part (C_kind_of : Con) : TPS :=
  zSeq (r_fits_part_1 C_kind_of)
  (zSeq (r_fits_part_2 C_kind_of)
  (zNx))
abbrev N_fits : List Str := ["pattern", "line", "words", "part", "word"]
def r_fits_4 (C_fits_part : Con) (C_words_of : Con) : TPS :=
  zRet (oE (eC (.bool true)))
def r_fits_3a_1a_1 (C_fits_part : Con) (C_words_of : Con) : TPS :=
  zRet (oE (eC (.bool false)))
def r_fits_3a_1 (C_fits_part : Con) (C_words_of : Con) : TPS :=
  zIf (tNot (bO (oCall C_fits_part [] (sCons (xE (eV 3)) (sCons (xE (eV 4)) (sNil))))))
  (zSeq (r_fits_3a_1a_1 C_fits_part C_words_of)
  (zNx))
  (zNx)
def r_fits_3f (C_fits_part : Con) (C_words_of : Con) : TPS :=
  zSeq (r_fits_3a_1 C_fits_part C_words_of)
  (zNx)
def r_fits_3 (C_fits_part : Con) (C_words_of : Con) : TPS :=
  zFor (iZp (eV 0) (eV 2)) (gTp2 3 4)
  (r_fits_3f C_fits_part C_words_of)
def r_fits_2a_1 (C_fits_part : Con) (C_words_of : Con) : TPS :=
  zRet (oE (eC (.bool false)))
def r_fits_2 (C_fits_part : Con) (C_words_of : Con) : TPS :=
  zIf (bO (o2 pNe (xE (eO (oN pLen (s1 (xV 2))))) (xE (eO (oN pLen (s1 (xV 0)))))))
  (zSeq (r_fits_2a_1 C_fits_part C_words_of)
  (zNx))
  (zNx)
def r_fits_1 (C_fits_part : Con) (C_words_of : Con) : TPS :=
  zSet 2 (oCall C_words_of [] (sCons (xE (eV 1)) (sNil)))
def r_fits (C_fits_part : Con) (C_words_of : Con) : TPS :=
  zSeq (r_fits_1 C_fits_part C_words_of)
  (zSeq (r_fits_2 C_fits_part C_words_of)
  (zSeq (r_fits_3 C_fits_part C_words_of)
  (zSeq (r_fits_4 C_fits_part C_words_of)
  (zNx))))
abbrev N_part_within : List Str := ["one", "other"]
def r_part_within_2 (C_fits_part : Con) : TPS :=
  zRet (oE (eOr (eO (o2 pEq (xV 1) (xV 0))) (eO (o2 pEq (xV 1) (xE (eO (oTup (sCons (xE (eC (.str "hole"))) (sCons (xE (eC (.str "any"))) (sNil))))))))))
def r_part_within_1a_1 (C_fits_part : Con) : TPS :=
  zRet (oCall C_fits_part [] (sCons (xE (eV 1)) (sCons (xE (eO (o2 pIx (xV 0) (xE (eC (.int 1)))))) (sNil))))
def r_part_within_1 (C_fits_part : Con) : TPS :=
  zIf (bO (o2 pEq (xE (eO (o2 pIx (xV 0) (xE (eC (.int 0)))))) (xE (eC (.str "word")))))
  (zSeq (r_part_within_1a_1 C_fits_part)
  (zNx))
  (zNx)
def r_part_within (C_fits_part : Con) : TPS :=
  zSeq (r_part_within_1 C_fits_part)
  (zSeq (r_part_within_2 C_fits_part)
  (zNx))
abbrev N_is_within : List Str := ["one", "other", "part", "wider"]
def r_is_within_1 (C_part_within : Con) : TPS :=
  zRet (oE (eAnd (eO (o2 pEq (xE (eO (oN pLen (s1 (xV 0))))) (xE (eO (oN pLen (s1 (xV 1))))))) (eO (oN pAll (s1 (xE (eO (oLc (iZp (eV 0) (eV 1)) (gTp2 2 3) (tYes') (eO (oCall C_part_within [] (sCons (xE (eV 2)) (sCons (xE (eV 3)) (sNil))))) [2, 3]))))))))
def r_is_within (C_part_within : Con) : TPS :=
  zSeq (r_is_within_1 C_part_within)
  (zNx)
abbrev N_joined_parts : List Str := ["parts", "kinds", "part", "kind"]
def r_joined_parts_5 (C_kind_of : Con) : TPS :=
  zRet (oTup (sCons (xE (eC (.str "hole"))) (sCons (xE (eC (.str "any"))) (sNil))))
def r_joined_parts_4a_1 (C_kind_of : Con) : TPS :=
  zRet (oTup (sCons (xE (eC (.str "hole"))) (sCons (xE (eO (o2 pIx (xV 1) (xE (eC (.int 0)))))) (sNil))))
def r_joined_parts_4 (C_kind_of : Con) : TPS :=
  zIf (tAnd (bO (oN pAll (s1 (xE (eO (oLc (iSq (eV 1)) (gNm 3) (tYes') (eO (o2 pEq (xV 3) (xE (eO (o2 pIx (xV 1) (xE (eC (.int 0)))))))) [3])))))) (bO (o2 (pIn false) (xE (eO (o2 pIx (xV 1) (xE (eC (.int 0)))))) (xE (eO (oTup (sCons (xE (eC (.str "number"))) (sCons (xE (eC (.str "name"))) (sNil)))))))))
  (zSeq (r_joined_parts_4a_1 C_kind_of)
  (zNx))
  (zNx)
def r_joined_parts_3a_3 (C_kind_of : Con) : TPS :=
  zApp 1 (eV 3)
def r_joined_parts_3a_2a_1 (C_kind_of : Con) : TPS :=
  zSet 3 (oCall C_kind_of [] (sCons (xE (eV 3)) (sNil)))
def r_joined_parts_3a_2 (C_kind_of : Con) : TPS :=
  zIf (bO (o2 pEq (xE (eO (o2 pIx (xV 2) (xE (eC (.int 0)))))) (xE (eC (.str "word")))))
  (zSeq (r_joined_parts_3a_2a_1 C_kind_of)
  (zNx))
  (zNx)
def r_joined_parts_3a_1 (C_kind_of : Con) : TPS :=
  zSet 3 (o2 pIx (xV 2) (xE (eC (.int 1))))
def r_joined_parts_3f (C_kind_of : Con) : TPS :=
  zSeq (r_joined_parts_3a_1 C_kind_of)
  (zSeq (r_joined_parts_3a_2 C_kind_of)
  (zSeq (r_joined_parts_3a_3 C_kind_of)
  (zNx)))
def r_joined_parts_3 (C_kind_of : Con) : TPS :=
  zFor (iSq (eV 0)) (gNm 2)
  (r_joined_parts_3f C_kind_of)
def r_joined_parts_2 (C_kind_of : Con) : TPS :=
  zSet 1 (oLst (sNil))
def r_joined_parts_1a_1 (C_kind_of : Con) : TPS :=
  zRet (o2 pIx (xV 0) (xE (eC (.int 0))))
def r_joined_parts_1 (C_kind_of : Con) : TPS :=
  zIf (bO (oN pAll (s1 (xE (eO (oLc (iSq (eV 0)) (gNm 2) (tYes') (eO (o2 pEq (xV 2) (xE (eO (o2 pIx (xV 0) (xE (eC (.int 0)))))))) [2]))))))
  (zSeq (r_joined_parts_1a_1 C_kind_of)
  (zNx))
  (zNx)
def r_joined_parts (C_kind_of : Con) : TPS :=
  zSeq (r_joined_parts_1 C_kind_of)
  (zSeq (r_joined_parts_2 C_kind_of)
  (zSeq (r_joined_parts_3 C_kind_of)
  (zSeq (r_joined_parts_4 C_kind_of)
  (zSeq (r_joined_parts_5 C_kind_of)
  (zNx)))))
abbrev N_joined : List Str := ["patterns", "pattern", "at"]
def r_joined_2 (C_joined_parts : Con) : TPS :=
  zRet (oLc (iRg1 (xE (eO (oN pLen (s1 (xE (eO (o2 pIx (xV 0) (xE (eC (.int 0))))))))))) (gNm 2) (tYes') (eO (oCall C_joined_parts [] (sCons (xE (eO (oLc (iSq (eV 0)) (gNm 1) (tYes') (eO (o2 pIx (xV 1) (xV 2))) [1]))) (sNil)))) [2])
def r_joined_1a_1 (C_joined_parts : Con) : TPS :=
  zNever
def r_joined_1 (C_joined_parts : Con) : TPS :=
  zIf (tOr (bO (o2 pEq (xV 0) (xE (eO (oLst (sNil)))))) (bO (oN pAny (s1 (xE (eO (oLc (iSq (eV 0)) (gNm 1) (tYes') (eO (o2 pNe (xE (eO (oN pLen (s1 (xV 1))))) (xE (eO (oN pLen (s1 (xE (eO (o2 pIx (xV 0) (xE (eC (.int 0)))))))))))) [1])))))))
  (zSeq (r_joined_1a_1 C_joined_parts)
  (zNx))
  (zNx)
def r_joined (C_joined_parts : Con) : TPS :=
  zSeq (r_joined_1 C_joined_parts)
  (zSeq (r_joined_2 C_joined_parts)
  (zNx))
abbrev N_looseness : List Str := ["pattern", "found", "part"]
def r_looseness_3 : TPS :=
  zRet (oV 1)
def r_looseness_2a_1a_1 : TPS :=
  zApp 1 (eC (.int 0))
def r_looseness_2a_1b_1 : TPS :=
  zApp 1 (eO (o2 pAdd (xE (eC (.int 1))) (xE (eO (oN pInt (s1 (xE (eO (o2 pEq (xE (eO (o2 pIx (xV 2) (xE (eC (.int 1)))))) (xE (eC (.str "any"))))))))))))
def r_looseness_2a_1 : TPS :=
  zIf (bO (o2 pEq (xE (eO (o2 pIx (xV 2) (xE (eC (.int 0)))))) (xE (eC (.str "word")))))
  (zSeq (r_looseness_2a_1a_1)
  (zNx))
  (zSeq (r_looseness_2a_1b_1)
  (zNx))
def r_looseness_2f : TPS :=
  zSeq (r_looseness_2a_1)
  (zNx)
def r_looseness_2 : TPS :=
  zFor (iSq (eV 0)) (gNm 2)
  (r_looseness_2f)
def r_looseness_1 : TPS :=
  zSet 1 (oLst (sNil))
def r_looseness : TPS :=
  zSeq (r_looseness_1)
  (zSeq (r_looseness_2)
  (zSeq (r_looseness_3)
  (zNx)))
abbrev N_narrowest : List Str := ["line", "patterns", "best", "pattern"]
def r_narrowest_3 (C_fits : Con) (C_looseness : Con) : TPS :=
  zRet (oV 2)
def r_narrowest_2a_1a_1 (C_fits : Con) (C_looseness : Con) : TPS :=
  zSet 2 (oE (eV 3))
def r_narrowest_2a_1 (C_fits : Con) (C_looseness : Con) : TPS :=
  zIf (tAnd (bO (oCall C_fits [] (sCons (xE (eV 3)) (sCons (xE (eV 0)) (sNil))))) (tOr (bO (o2 pIsN (xV 2) (xE (eC .none)))) (bO (o2 pLtD (xE (eO (oCall C_looseness [] (sCons (xE (eV 3)) (sNil))))) (xE (eO (oCall C_looseness [] (sCons (xE (eV 2)) (sNil)))))))))
  (zSeq (r_narrowest_2a_1a_1 C_fits C_looseness)
  (zNx))
  (zNx)
def r_narrowest_2f (C_fits : Con) (C_looseness : Con) : TPS :=
  zSeq (r_narrowest_2a_1 C_fits C_looseness)
  (zNx)
def r_narrowest_2 (C_fits : Con) (C_looseness : Con) : TPS :=
  zFor (iSq (eV 1)) (gNm 3)
  (r_narrowest_2f C_fits C_looseness)
def r_narrowest_1 (C_fits : Con) (C_looseness : Con) : TPS :=
  zSet 2 (oE (eC .none))
def r_narrowest (C_fits : Con) (C_looseness : Con) : TPS :=
  zSeq (r_narrowest_1 C_fits C_looseness)
  (zSeq (r_narrowest_2 C_fits C_looseness)
  (zSeq (r_narrowest_3 C_fits C_looseness)
  (zNx)))
abbrev N_falls_under : List Str := ["line", "patterns"]
def r_falls_under_1 (C_ordered : Con) (C_narrowest : Con) : TPS :=
  zRet (oCall C_narrowest [] (sCons (xE (eV 0)) (sCons (xE (eO (oCall C_ordered [] (sCons (xE (eV 1)) (sNil))))) (sNil))))
def r_falls_under (C_ordered : Con) (C_narrowest : Con) : TPS :=
  zSeq (r_falls_under_1 C_ordered C_narrowest)
  (zNx)
abbrev N_counted : List Str := ["rows", "at", "found", "row"]
def r_counted_3 : TPS :=
  zRet (oV 2)
def r_counted_2a_1 : TPS :=
  zDput 2 (eO (o2 pAdd (xE (eDget2 2 (eO (o2 pIx (xV 3) (xV 1))) (eC (.int 0)))) (xE (eC (.int 1))))) (eO (o2 pIx (xV 3) (xV 1)))
def r_counted_2f : TPS :=
  zSeq (r_counted_2a_1)
  (zNx)
def r_counted_2 : TPS :=
  zFor (iSq (eV 0)) (gNm 3)
  (r_counted_2f)
def r_counted_1 : TPS :=
  zSet 2 (oDnew)
def r_counted : TPS :=
  zSeq (r_counted_1)
  (zSeq (r_counted_2)
  (zSeq (r_counted_3)
  (zNx)))
abbrev N_parting_place : List Str := ["rows", "sieve", "best", "at", "found", "few", "word"]
def r_parting_place_4 (C_counted : Con) : TPS :=
  zRet (o2 pIx (xV 2) (xE (eC (.int 1))))
def r_parting_place_3a_1 (C_counted : Con) : TPS :=
  zRet (oE (eC .none))
def r_parting_place_3 (C_counted : Con) : TPS :=
  zIf (bO (o2 pIsN (xV 2) (xE (eC .none))))
  (zSeq (r_parting_place_3a_1 C_counted)
  (zNx))
  (zNx)
def r_parting_place_2a_3a_1 (C_counted : Con) : TPS :=
  zSet 2 (oTup (sCons (xE (eO (oDlen 4))) (sCons (xE (eV 3)) (sNil))))
def r_parting_place_2a_3 (C_counted : Con) : TPS :=
  zIf (tAnd (bO (oCh pLe pLe (xE (eC (.int 2))) (xE (eO (oDlen 4))) (xE (eO (o2 pIx (xV 1) (xE (eC (.int 0)))))))) (tAnd (bO (o2 pGe (xV 5) (xE (eO (o2 pIx (xV 1) (xE (eC (.int 1)))))))) (tOr (bO (o2 pIsN (xV 2) (xE (eC .none)))) (bO (o2 pLt (xE (eO (oDlen 4))) (xE (eO (o2 pIx (xV 2) (xE (eC (.int 0)))))))))))
  (zSeq (r_parting_place_2a_3a_1 C_counted)
  (zNx))
  (zNx)
def r_parting_place_2a_2 (C_counted : Con) : TPS :=
  zSet 5 (oN pMin (s1 (xE (eO (oLc (iKy 4) (gNm 6) (tYes') (eDg 4 (eV 6)) [6])))))
def r_parting_place_2a_1 (C_counted : Con) : TPS :=
  zSet 4 (oCall C_counted [] (sCons (xE (eV 0)) (sCons (xE (eV 3)) (sNil))))
def r_parting_place_2f (C_counted : Con) : TPS :=
  zSeq (r_parting_place_2a_1 C_counted)
  (zSeq (r_parting_place_2a_2 C_counted)
  (zSeq (r_parting_place_2a_3 C_counted)
  (zNx)))
def r_parting_place_2 (C_counted : Con) : TPS :=
  zFor (iRg1 (xE (eO (oN pLen (s1 (xE (eO (o2 pIx (xV 0) (xE (eC (.int 0))))))))))) (gNm 3)
  (r_parting_place_2f C_counted)
def r_parting_place_1 (C_counted : Con) : TPS :=
  zSet 2 (oE (eC .none))
def r_parting_place (C_counted : Con) : TPS :=
  zSeq (r_parting_place_1 C_counted)
  (zSeq (r_parting_place_2 C_counted)
  (zSeq (r_parting_place_3 C_counted)
  (zSeq (r_parting_place_4 C_counted)
  (zNx))))
abbrev N_groups_of : List Str := ["rows", "sieve", "at", "found", "word", "row"]
def r_groups_of_5 (C_counted : Con) (C_groups_of : Con) (C_parting_place : Con) : TPS :=
  zRet (oV 3)
def r_groups_of_4a_1 (C_counted : Con) (C_groups_of : Con) (C_parting_place : Con) : TPS :=
  zExt 3 (oCall C_groups_of [] (sCons (xE (eO (oLc (iSq (eV 0)) (gNm 5) (bO (o2 pEq (xE (eO (o2 pIx (xV 5) (xV 2)))) (xV 4))) (eV 5) [5]))) (sCons (xE (eV 1)) (sNil))))
def r_groups_of_4f (C_counted : Con) (C_groups_of : Con) (C_parting_place : Con) : TPS :=
  zSeq (r_groups_of_4a_1 C_counted C_groups_of C_parting_place)
  (zNx)
def r_groups_of_4 (C_counted : Con) (C_groups_of : Con) (C_parting_place : Con) : TPS :=
  zFor (iSq (eO (oDsort (oCall C_counted [] (sCons (xE (eV 0)) (sCons (xE (eV 2)) (sNil))))))) (gNm 4)
  (r_groups_of_4f C_counted C_groups_of C_parting_place)
def r_groups_of_3 (C_counted : Con) (C_groups_of : Con) (C_parting_place : Con) : TPS :=
  zSet 3 (oLst (sNil))
def r_groups_of_2a_1 (C_counted : Con) (C_groups_of : Con) (C_parting_place : Con) : TPS :=
  zRet (oLst (sCons (xE (eV 0)) (sNil)))
def r_groups_of_2 (C_counted : Con) (C_groups_of : Con) (C_parting_place : Con) : TPS :=
  zIf (bO (o2 pIsN (xV 2) (xE (eC .none))))
  (zSeq (r_groups_of_2a_1 C_counted C_groups_of C_parting_place)
  (zNx))
  (zNx)
def r_groups_of_1 (C_counted : Con) (C_groups_of : Con) (C_parting_place : Con) : TPS :=
  zSet 2 (oCall C_parting_place [] (sCons (xE (eV 0)) (sCons (xE (eV 1)) (sNil))))
def r_groups_of (C_counted : Con) (C_groups_of : Con) (C_parting_place : Con) : TPS :=
  zSeq (r_groups_of_1 C_counted C_groups_of C_parting_place)
  (zSeq (r_groups_of_2 C_counted C_groups_of C_parting_place)
  (zSeq (r_groups_of_3 C_counted C_groups_of C_parting_place)
  (zSeq (r_groups_of_4 C_counted C_groups_of C_parting_place)
  (zSeq (r_groups_of_5 C_counted C_groups_of C_parting_place)
  (zNx)))))
abbrev N_sieve_of : List Str := ["sieve"]
def r_sieve_of_2 : TPS :=
  zRet (oV 0)
def r_sieve_of_1a_1 : TPS :=
  zRet (oE (eC (.tuple [(.int 3), (.int 2)])))
def r_sieve_of_1 : TPS :=
  zIf (bO (o2 pIsN (xV 0) (xE (eC .none))))
  (zSeq (r_sieve_of_1a_1)
  (zNx))
  (zNx)
def r_sieve_of : TPS :=
  zSeq (r_sieve_of_1)
  (zSeq (r_sieve_of_2)
  (zNx))
abbrev N_of_words : List Str := ["line", "word"]
def r_of_words_1 (C_words_of : Con) : TPS :=
  zRet (oLc (iSq (eO (oCall C_words_of [] (sCons (xE (eV 0)) (sNil))))) (gNm 1) (tYes') (eO (oTup (sCons (xE (eC (.str "word"))) (sCons (xE (eV 1)) (sNil))))) [1])
def r_of_words (C_words_of : Con) : TPS :=
  zSeq (r_of_words_1 C_words_of)
  (zNx)
abbrev N_gathered : List Str := ["lines", "sieve", "rows", "met", "line", "words", "found", "many", "group", "row"]
def r_gathered_7 (C_ordered : Con) (C_groups_of : Con) (C_of_words : Con) (C_joined : Con) (C_words_of : Con) (C_sieve_of : Con) : TPS :=
  zRet (oCall C_ordered [] (sCons (xE (eV 6)) (sNil)))
def r_gathered_6a_1a_1 (C_ordered : Con) (C_groups_of : Con) (C_of_words : Con) (C_joined : Con) (C_words_of : Con) (C_sieve_of : Con) : TPS :=
  zApp 6 (eO (oCall C_joined [] (sCons (xE (eO (oLc (iSq (eV 8)) (gNm 9) (tYes') (eO (oCall C_of_words [] (sCons (xE (eO (oM pJoin (eC (.str " ")) (xV 9)))) (sNil)))) [9]))) (sNil))))
def r_gathered_6a_1f (C_ordered : Con) (C_groups_of : Con) (C_of_words : Con) (C_joined : Con) (C_words_of : Con) (C_sieve_of : Con) : TPS :=
  zSeq (r_gathered_6a_1a_1 C_ordered C_groups_of C_of_words C_joined C_words_of C_sieve_of)
  (zNx)
def r_gathered_6a_1 (C_ordered : Con) (C_groups_of : Con) (C_of_words : Con) (C_joined : Con) (C_words_of : Con) (C_sieve_of : Con) : TPS :=
  zFor (iSq (eO (oCall C_groups_of [] (sCons (xE (eDg 2 (eV 7))) (sCons (xE (eV 1)) (sNil)))))) (gNm 8)
  (r_gathered_6a_1f C_ordered C_groups_of C_of_words C_joined C_words_of C_sieve_of)
def r_gathered_6f (C_ordered : Con) (C_groups_of : Con) (C_of_words : Con) (C_joined : Con) (C_words_of : Con) (C_sieve_of : Con) : TPS :=
  zSeq (r_gathered_6a_1 C_ordered C_groups_of C_of_words C_joined C_words_of C_sieve_of)
  (zNx)
def r_gathered_6 (C_ordered : Con) (C_groups_of : Con) (C_of_words : Con) (C_joined : Con) (C_words_of : Con) (C_sieve_of : Con) : TPS :=
  zFor (iKy 2) (gNm 7)
  (r_gathered_6f C_ordered C_groups_of C_of_words C_joined C_words_of C_sieve_of)
def r_gathered_5 (C_ordered : Con) (C_groups_of : Con) (C_of_words : Con) (C_joined : Con) (C_words_of : Con) (C_sieve_of : Con) : TPS :=
  zSet 6 (oLst (sNil))
def r_gathered_4a_1a_3 (C_ordered : Con) (C_groups_of : Con) (C_of_words : Con) (C_joined : Con) (C_words_of : Con) (C_sieve_of : Con) : TPS :=
  zDput 2 (eO (o2 pAdd (xE (eDget2 2 (eO (oN pLen (s1 (xV 5)))) (eO (oLst (sNil))))) (xE (eO (oLst (sCons (xE (eV 5)) (sNil))))))) (eO (oN pLen (s1 (xV 5))))
def r_gathered_4a_1a_2 (C_ordered : Con) (C_groups_of : Con) (C_of_words : Con) (C_joined : Con) (C_words_of : Con) (C_sieve_of : Con) : TPS :=
  zSet 5 (oCall C_words_of [] (sCons (xE (eV 4)) (sNil)))
def r_gathered_4a_1a_1 (C_ordered : Con) (C_groups_of : Con) (C_of_words : Con) (C_joined : Con) (C_words_of : Con) (C_sieve_of : Con) : TPS :=
  zDput 3 (eC (.bool true)) (eV 4)
def r_gathered_4a_1 (C_ordered : Con) (C_groups_of : Con) (C_of_words : Con) (C_joined : Con) (C_words_of : Con) (C_sieve_of : Con) : TPS :=
  zIf (bO (oDin true 3 (eV 4)))
  (zSeq (r_gathered_4a_1a_1 C_ordered C_groups_of C_of_words C_joined C_words_of C_sieve_of)
  (zSeq (r_gathered_4a_1a_2 C_ordered C_groups_of C_of_words C_joined C_words_of C_sieve_of)
  (zSeq (r_gathered_4a_1a_3 C_ordered C_groups_of C_of_words C_joined C_words_of C_sieve_of)
  (zNx))))
  (zNx)
def r_gathered_4f (C_ordered : Con) (C_groups_of : Con) (C_of_words : Con) (C_joined : Con) (C_words_of : Con) (C_sieve_of : Con) : TPS :=
  zSeq (r_gathered_4a_1 C_ordered C_groups_of C_of_words C_joined C_words_of C_sieve_of)
  (zNx)
def r_gathered_4 (C_ordered : Con) (C_groups_of : Con) (C_of_words : Con) (C_joined : Con) (C_words_of : Con) (C_sieve_of : Con) : TPS :=
  zFor (iSq (eV 0)) (gNm 4)
  (r_gathered_4f C_ordered C_groups_of C_of_words C_joined C_words_of C_sieve_of)
def r_gathered_3 (C_ordered : Con) (C_groups_of : Con) (C_of_words : Con) (C_joined : Con) (C_words_of : Con) (C_sieve_of : Con) : TPS :=
  zSet 3 (oDnew)
def r_gathered_2 (C_ordered : Con) (C_groups_of : Con) (C_of_words : Con) (C_joined : Con) (C_words_of : Con) (C_sieve_of : Con) : TPS :=
  zSet 2 (oDnew)
def r_gathered_1 (C_ordered : Con) (C_groups_of : Con) (C_of_words : Con) (C_joined : Con) (C_words_of : Con) (C_sieve_of : Con) : TPS :=
  zSet 1 (oCall C_sieve_of [] (sCons (xE (eV 1)) (sNil)))
def r_gathered (C_ordered : Con) (C_groups_of : Con) (C_of_words : Con) (C_joined : Con) (C_words_of : Con) (C_sieve_of : Con) : TPS :=
  zSeq (r_gathered_1 C_ordered C_groups_of C_of_words C_joined C_words_of C_sieve_of)
  (zSeq (r_gathered_2 C_ordered C_groups_of C_of_words C_joined C_words_of C_sieve_of)
  (zSeq (r_gathered_3 C_ordered C_groups_of C_of_words C_joined C_words_of C_sieve_of)
  (zSeq (r_gathered_4 C_ordered C_groups_of C_of_words C_joined C_words_of C_sieve_of)
  (zSeq (r_gathered_5 C_ordered C_groups_of C_of_words C_joined C_words_of C_sieve_of)
  (zSeq (r_gathered_6 C_ordered C_groups_of C_of_words C_joined C_words_of C_sieve_of)
  (zSeq (r_gathered_7 C_ordered C_groups_of C_of_words C_joined C_words_of C_sieve_of)
  (zNx)))))))
abbrev N__law_joined : List Str := ["patterns", "found", "at", "parts", "kinds", "pattern", "part", "kind"]
def r__law_joined_3 (C__law_kind : Con) : TPS :=
  zRet (oV 1)
def r__law_joined_2a_3a_1 (C__law_kind : Con) : TPS :=
  zApp 1 (eO (o2 pIx (xV 3) (xE (eC (.int 0)))))
def r__law_joined_2a_3b_1a_1 (C__law_kind : Con) : TPS :=
  zApp 1 (eO (oTup (sCons (xE (eC (.str "hole"))) (sCons (xE (eO (o2 pIx (xV 4) (xE (eC (.int 0)))))) (sNil)))))
def r__law_joined_2a_3b_1b_1 (C__law_kind : Con) : TPS :=
  zApp 1 (eO (oTup (sCons (xE (eC (.str "hole"))) (sCons (xE (eC (.str "any"))) (sNil)))))
def r__law_joined_2a_3b_1 (C__law_kind : Con) : TPS :=
  zIf (tAnd (bO (o2 pEq (xE (eO (oLc (iSq (eV 4)) (gNm 7) (bO (o2 pNe (xV 7) (xE (eO (o2 pIx (xV 4) (xE (eC (.int 0)))))))) (eV 7) [7]))) (xE (eO (oLst (sNil)))))) (bO (o2 (pIn false) (xE (eO (o2 pIx (xV 4) (xE (eC (.int 0)))))) (xE (eO (oTup (sCons (xE (eC (.str "number"))) (sCons (xE (eC (.str "name"))) (sNil)))))))))
  (zSeq (r__law_joined_2a_3b_1a_1 C__law_kind)
  (zNx))
  (zSeq (r__law_joined_2a_3b_1b_1 C__law_kind)
  (zNx))
def r__law_joined_2a_3 (C__law_kind : Con) : TPS :=
  zIf (bO (o2 pEq (xE (eO (oLc (iSq (eV 3)) (gNm 6) (bO (o2 pNe (xV 6) (xE (eO (o2 pIx (xV 3) (xE (eC (.int 0)))))))) (eV 6) [6]))) (xE (eO (oLst (sNil))))))
  (zSeq (r__law_joined_2a_3a_1 C__law_kind)
  (zNx))
  (zSeq (r__law_joined_2a_3b_1 C__law_kind)
  (zNx))
def r__law_joined_2a_2 (C__law_kind : Con) : TPS :=
  zSet 4 (oLc (iSq (eV 3)) (gNm 6) (tYes') (eIf (bO (o2 pEq (xE (eO (o2 pIx (xV 6) (xE (eC (.int 0)))))) (xE (eC (.str "word"))))) (eO (oCall C__law_kind [] (sCons (xE (eO (o2 pIx (xV 6) (xE (eC (.int 1)))))) (sNil)))) (eO (o2 pIx (xV 6) (xE (eC (.int 1)))))) [6])
def r__law_joined_2a_1 (C__law_kind : Con) : TPS :=
  zSet 3 (oLc (iSq (eV 0)) (gNm 5) (tYes') (eO (o2 pIx (xV 5) (xV 2))) [5])
def r__law_joined_2f (C__law_kind : Con) : TPS :=
  zSeq (r__law_joined_2a_1 C__law_kind)
  (zSeq (r__law_joined_2a_2 C__law_kind)
  (zSeq (r__law_joined_2a_3 C__law_kind)
  (zNx)))
def r__law_joined_2 (C__law_kind : Con) : TPS :=
  zFor (iRg1 (xE (eO (oN pLen (s1 (xE (eO (o2 pIx (xV 0) (xE (eC (.int 0))))))))))) (gNm 2)
  (r__law_joined_2f C__law_kind)
def r__law_joined_1 (C__law_kind : Con) : TPS :=
  zSet 1 (oLst (sNil))
def r__law_joined (C__law_kind : Con) : TPS :=
  zSeq (r__law_joined_1 C__law_kind)
  (zSeq (r__law_joined_2 C__law_kind)
  (zSeq (r__law_joined_3 C__law_kind)
  (zNx)))
abbrev N__law_groups : List Str := ["rows", "sieve", "best", "at", "counts", "row", "few", "found", "word"]
def r__law_groups_6 (C__law_groups : Con) : TPS :=
  zRet (oV 7)
def r__law_groups_5a_1 (C__law_groups : Con) : TPS :=
  zSet 7 (o2 pAdd (xV 7) (xE (eO (oCall C__law_groups [] (sCons (xE (eO (oLc (iSq (eV 0)) (gNm 5) (bO (o2 pEq (xE (eO (o2 pIx (xV 5) (xE (eO (o2 pIx (xV 2) (xE (eC (.int 1))))))))) (xV 8))) (eV 5) [5]))) (sCons (xE (eV 1)) (sNil)))))))
def r__law_groups_5f (C__law_groups : Con) : TPS :=
  zSeq (r__law_groups_5a_1 C__law_groups)
  (zNx)
def r__law_groups_5 (C__law_groups : Con) : TPS :=
  zFor (iSq (eO (oSSet (xE (eO (oLc (iSq (eV 0)) (gNm 5) (tYes') (eO (o2 pIx (xV 5) (xE (eO (o2 pIx (xV 2) (xE (eC (.int 1)))))))) [5])))))) (gNm 8)
  (r__law_groups_5f C__law_groups)
def r__law_groups_4 (C__law_groups : Con) : TPS :=
  zSet 7 (oLst (sNil))
def r__law_groups_3a_1 (C__law_groups : Con) : TPS :=
  zRet (oLst (sCons (xE (eV 0)) (sNil)))
def r__law_groups_3 (C__law_groups : Con) : TPS :=
  zIf (bO (o2 pIsN (xV 2) (xE (eC .none))))
  (zSeq (r__law_groups_3a_1 C__law_groups)
  (zNx))
  (zNx)
def r__law_groups_2a_4a_1 (C__law_groups : Con) : TPS :=
  zSet 2 (oIf (bO (o2 pNotN (xV 2) (xE (eC .none)))) (oN pMin2 (sCons (xV 2) (sCons (xE (eO (oTup (sCons (xE (eO (oDlen 4))) (sCons (xE (eV 3)) (sNil)))))) (sNil)))) (oTup (sCons (xE (eO (oDlen 4))) (sCons (xE (eV 3)) (sNil)))))
def r__law_groups_2a_4 (C__law_groups : Con) : TPS :=
  zIf (tAnd (bO (oCh pLt pLe (xE (eC (.int 1))) (xE (eO (oDlen 4))) (xE (eO (o2 pIx (xV 1) (xE (eC (.int 0)))))))) (bO (o2 pGe (xV 6) (xE (eO (o2 pIx (xV 1) (xE (eC (.int 1)))))))))
  (zSeq (r__law_groups_2a_4a_1 C__law_groups)
  (zNx))
  (zNx)
def r__law_groups_2a_3 (C__law_groups : Con) : TPS :=
  zSet 6 (oN pMin (s1 (xE (eO (oLc (iKy 4) (gNm 8) (tYes') (eDg 4 (eV 8)) [8])))))
def r__law_groups_2a_2a_1 (C__law_groups : Con) : TPS :=
  zDput 4 (eO (o2 pAdd (xE (eDget2 4 (eO (o2 pIx (xV 5) (xV 3))) (eC (.int 0)))) (xE (eC (.int 1))))) (eO (o2 pIx (xV 5) (xV 3)))
def r__law_groups_2a_2f (C__law_groups : Con) : TPS :=
  zSeq (r__law_groups_2a_2a_1 C__law_groups)
  (zNx)
def r__law_groups_2a_2 (C__law_groups : Con) : TPS :=
  zFor (iSq (eV 0)) (gNm 5)
  (r__law_groups_2a_2f C__law_groups)
def r__law_groups_2a_1 (C__law_groups : Con) : TPS :=
  zSet 4 (oDnew)
def r__law_groups_2f (C__law_groups : Con) : TPS :=
  zSeq (r__law_groups_2a_1 C__law_groups)
  (zSeq (r__law_groups_2a_2 C__law_groups)
  (zSeq (r__law_groups_2a_3 C__law_groups)
  (zSeq (r__law_groups_2a_4 C__law_groups)
  (zNx))))
def r__law_groups_2 (C__law_groups : Con) : TPS :=
  zFor (iRg1 (xE (eO (oN pLen (s1 (xE (eO (o2 pIx (xV 0) (xE (eC (.int 0))))))))))) (gNm 3)
  (r__law_groups_2f C__law_groups)
def r__law_groups_1 (C__law_groups : Con) : TPS :=
  zSet 2 (oE (eC .none))
def r__law_groups (C__law_groups : Con) : TPS :=
  zSeq (r__law_groups_1 C__law_groups)
  (zSeq (r__law_groups_2 C__law_groups)
  (zSeq (r__law_groups_3 C__law_groups)
  (zSeq (r__law_groups_4 C__law_groups)
  (zSeq (r__law_groups_5 C__law_groups)
  (zSeq (r__law_groups_6 C__law_groups)
  (zNx))))))
abbrev N__law_gathered : List Str := ["lines", "sieve", "found", "many", "rows", "group", "line", "row", "word"]
def r__law_gathered_3 (C__law_ordered : Con) (C__law_groups : Con) (C__law_joined : Con) : TPS :=
  zRet (oCall C__law_ordered [] (sCons (xE (eV 2)) (sNil)))
def r__law_gathered_2a_2a_1a_1 (C__law_ordered : Con) (C__law_groups : Con) (C__law_joined : Con) : TPS :=
  zApp 2 (eO (oCall C__law_joined [] (sCons (xE (eO (oLc (iSq (eV 5)) (gNm 7) (tYes') (eO (oLc (iSq (eV 7)) (gNm 8) (tYes') (eO (oTup (sCons (xE (eC (.str "word"))) (sCons (xE (eV 8)) (sNil))))) [8])) [7]))) (sNil))))
def r__law_gathered_2a_2a_1f (C__law_ordered : Con) (C__law_groups : Con) (C__law_joined : Con) : TPS :=
  zSeq (r__law_gathered_2a_2a_1a_1 C__law_ordered C__law_groups C__law_joined)
  (zNx)
def r__law_gathered_2a_2a_1 (C__law_ordered : Con) (C__law_groups : Con) (C__law_joined : Con) : TPS :=
  zFor (iSq (eO (oCall C__law_groups [] (sCons (xE (eO (oLc (iSq (eV 4)) (gNm 7) (tYes') (eO (oM pSplit (eV 7) (xE (eC (.str " "))))) [7]))) (sCons (xE (eV 1)) (sNil)))))) (gNm 5)
  (r__law_gathered_2a_2a_1f C__law_ordered C__law_groups C__law_joined)
def r__law_gathered_2a_2 (C__law_ordered : Con) (C__law_groups : Con) (C__law_joined : Con) : TPS :=
  zIf (bO (o2 pNe (xV 4) (xE (eO (oLst (sNil))))))
  (zSeq (r__law_gathered_2a_2a_1 C__law_ordered C__law_groups C__law_joined)
  (zNx))
  (zNx)
def r__law_gathered_2a_1 (C__law_ordered : Con) (C__law_groups : Con) (C__law_joined : Con) : TPS :=
  zSet 4 (oSSet (xE (eO (oLc (iSq (eV 0)) (gNm 6) (bO (o2 pEq (xE (eO (oN pLen (s1 (xE (eO (oM pSplit (eV 6) (xE (eC (.str " ")))))))))) (xV 3))) (eV 6) [6]))))
def r__law_gathered_2f (C__law_ordered : Con) (C__law_groups : Con) (C__law_joined : Con) : TPS :=
  zSeq (r__law_gathered_2a_1 C__law_ordered C__law_groups C__law_joined)
  (zSeq (r__law_gathered_2a_2 C__law_ordered C__law_groups C__law_joined)
  (zNx))
def r__law_gathered_2 (C__law_ordered : Con) (C__law_groups : Con) (C__law_joined : Con) : TPS :=
  zFor (iRg2 (xE (eC (.int 1))) (xE (eC (.int 13)))) (gNm 3)
  (r__law_gathered_2f C__law_ordered C__law_groups C__law_joined)
def r__law_gathered_1 (C__law_ordered : Con) (C__law_groups : Con) (C__law_joined : Con) : TPS :=
  zSet 2 (oLst (sNil))
def r__law_gathered (C__law_ordered : Con) (C__law_groups : Con) (C__law_joined : Con) : TPS :=
  zSeq (r__law_gathered_1 C__law_ordered C__law_groups C__law_joined)
  (zSeq (r__law_gathered_2 C__law_ordered C__law_groups C__law_joined)
  (zSeq (r__law_gathered_3 C__law_ordered C__law_groups C__law_joined)
  (zNx)))
abbrev N__law_sieve : List Str := ["deck"]
def r__law_sieve_1 (C__law_pick : Con) : TPS :=
  zRet (oTup (sCons (xE (eO (o2 pAdd (xE (eC (.int 2))) (xE (eO (oCall C__law_pick [] (sCons (xV 0) (sCons (xE (eC (.int 8))) (sNil))))))))) (sCons (xE (eO (o2 pAdd (xE (eC (.int 1))) (xE (eO (oCall C__law_pick [] (sCons (xV 0) (sCons (xE (eO (o2 pIx (xE (eO (oLst (sCons (xE (eC (.int 3))) (sCons (xE (eC (.int 3))) (sCons (xE (eC (.int 9))) (sNil))))))) (xE (eO (oCall C__law_pick [] (sCons (xV 0) (sCons (xE (eC (.int 3))) (sNil))))))))) (sNil))))))))) (sNil))))
def r__law_sieve (C__law_pick : Con) : TPS :=
  zSeq (r__law_sieve_1 C__law_pick)
  (zNx)
abbrev N__law_loose : List Str := ["pattern", "found", "part"]
def r__law_loose_3 : TPS :=
  zRet (oV 1)
def r__law_loose_2a_1 : TPS :=
  zApp 1 (eO (o2 pIx (xE (eO (oLst (sCons (xE (eC (.int 0))) (sCons (xE (eO (o2 pAdd (xE (eC (.int 1))) (xE (eO (oN pInt (s1 (xE (eO (o2 pEq (xE (eO (o2 pIx (xV 2) (xE (eC (.int 1)))))) (xE (eC (.str "any"))))))))))))) (sNil)))))) (xE (eO (oN pInt (s1 (xE (eO (o2 pEq (xE (eO (o2 pIx (xV 2) (xE (eC (.int 0)))))) (xE (eC (.str "hole"))))))))))))
def r__law_loose_2f : TPS :=
  zSeq (r__law_loose_2a_1)
  (zNx)
def r__law_loose_2 : TPS :=
  zFor (iSq (eV 0)) (gNm 2)
  (r__law_loose_2f)
def r__law_loose_1 : TPS :=
  zSet 1 (oLst (sNil))
def r__law_loose : TPS :=
  zSeq (r__law_loose_1)
  (zSeq (r__law_loose_2)
  (zSeq (r__law_loose_3)
  (zNx)))
abbrev N__law_falls : List Str := ["line", "patterns", "some", "pattern"]
def r__law_falls_2 (C__law_fits : Con) (C__law_loose : Con) (C__law_place : Con) : TPS :=
  zRet (oIf (bO (o2 pNe (xV 2) (xE (eO (oLst (sNil)))))) (oN pList (s1 (xE (eO (o2 pIx (xE (eO (oN pMin (s1 (xV 2))))) (xE (eC (.int 2)))))))) (oE (eC .none)))
def r__law_falls_1 (C__law_fits : Con) (C__law_loose : Con) (C__law_place : Con) : TPS :=
  zSet 2 (oLc (iSq (eV 1)) (gNm 3) (bO (oCall C__law_fits [] (sCons (xE (eV 3)) (sCons (xE (eV 0)) (sNil))))) (eO (oTup (sCons (xE (eO (oCall C__law_loose [] (sCons (xE (eV 3)) (sNil))))) (sCons (xE (eO (oCall C__law_place [] (sCons (xE (eV 3)) (sNil))))) (sCons (xE (eV 3)) (sNil)))))) [3])
def r__law_falls (C__law_fits : Con) (C__law_loose : Con) (C__law_place : Con) : TPS :=
  zSeq (r__law_falls_1 C__law_fits C__law_loose C__law_place)
  (zSeq (r__law_falls_2 C__law_fits C__law_loose C__law_place)
  (zNx))
abbrev N_news : List Str := ["lines", "sieve", "found", "number", "line", "pattern"]
def r_news_3 (C_gathered : Con) (C_fits : Con) : TPS :=
  zRet (oV 2)
def r_news_2a_1a_1 (C_gathered : Con) (C_fits : Con) : TPS :=
  zApp 2 (eV 3)
def r_news_2a_1 (C_gathered : Con) (C_fits : Con) : TPS :=
  zIf (tNot (bO (oN pAny (s1 (xE (eO (oLc (iSq (eO (oCall C_gathered [] (sCons (xE (eO (oSl (xV 0) (tP0) (tP1 (eV 3))))) (sCons (xE (eV 1)) (sNil)))))) (gNm 5) (tYes') (eO (oCall C_fits [] (sCons (xE (eV 5)) (sCons (xE (eV 4)) (sNil))))) [5])))))))
  (zSeq (r_news_2a_1a_1 C_gathered C_fits)
  (zNx))
  (zNx)
def r_news_2f (C_gathered : Con) (C_fits : Con) : TPS :=
  zSeq (r_news_2a_1 C_gathered C_fits)
  (zNx)
def r_news_2 (C_gathered : Con) (C_fits : Con) : TPS :=
  zFor (iEn (eV 0)) (gTp2 3 4)
  (r_news_2f C_gathered C_fits)
def r_news_1 (C_gathered : Con) (C_fits : Con) : TPS :=
  zSet 2 (oLst (sNil))
def r_news (C_gathered : Con) (C_fits : Con) : TPS :=
  zSeq (r_news_1 C_gathered C_fits)
  (zSeq (r_news_2 C_gathered C_fits)
  (zSeq (r_news_3 C_gathered C_fits)
  (zNx)))
abbrev N_is_word : List Str := ["thing", "sign"]
def r_is_word_2 : TPS :=
  zRet (oN pAll (s1 (xE (eO (oLc (iSt (eV 0)) (gNm 1) (tYes') (eOr (eO (oCh pLe pLe (xE (eC (.str "!"))) (xV 1) (xE (eC (.str "$"))))) (eO (oCh pLe pLe (xE (eC (.str "&"))) (xV 1) (xE (eC (.str "~")))))) [1])))))
def r_is_word_1a_1 : TPS :=
  zRet (oE (eC (.bool false)))
def r_is_word_1 : TPS :=
  zIf (tOr (tNot (bO (oIsi "str" (xV 0)))) (bO (o2 pEq (xV 0) (xE (eC (.str ""))))))
  (zSeq (r_is_word_1a_1)
  (zNx))
  (zNx)
def r_is_word : TPS :=
  zSeq (r_is_word_1)
  (zSeq (r_is_word_2)
  (zNx))
abbrev N_line_place : List Str := ["line", "words", "word"]
def r_line_place_2 (C_word_place : Con) (C_words_of : Con) : TPS :=
  zRet (oTup (sCons (xE (eO (oN pLen (s1 (xV 1))))) (sCons (xE (eO (oLc (iSq (eV 1)) (gNm 2) (tYes') (eO (oCall C_word_place [] (sCons (xE (eV 2)) (sNil)))) [2]))) (sNil))))
def r_line_place_1 (C_word_place : Con) (C_words_of : Con) : TPS :=
  zSet 1 (oCall C_words_of [] (sCons (xE (eV 0)) (sNil)))
def r_line_place (C_word_place : Con) (C_words_of : Con) : TPS :=
  zSeq (r_line_place_1 C_word_place C_words_of)
  (zSeq (r_line_place_2 C_word_place C_words_of)
  (zNx))
abbrev N_in_order : List Str := ["lines", "line", "place"]
def r_in_order_1 (C_line_place : Con) : TPS :=
  zRet (oLc (iSq (eO (oN pSort (s1 (xE (eO (oLc (iSq (eV 0)) (gNm 1) (tYes') (eO (oTup (sCons (xE (eO (oCall C_line_place [] (sCons (xE (eV 1)) (sNil))))) (sCons (xE (eV 1)) (sNil))))) [1]))))))) (gTp2 2 1) (tYes') (eV 1) [2, 1])
def r_in_order (C_line_place : Con) : TPS :=
  zSeq (r_in_order_1 C_line_place)
  (zNx)
abbrev N_filled : List Str := ["pattern", "words", "left", "found", "part"]
def r_filled_5 (C_is_word : Con) (C_fits_part : Con) : TPS :=
  zRet (oM pJoin (eC (.str " ")) (xV 3))
def r_filled_4a_1 (C_is_word : Con) (C_fits_part : Con) : TPS :=
  zNever
def r_filled_4 (C_is_word : Con) (C_fits_part : Con) : TPS :=
  zIf (bO (o2 pNe (xV 2) (xE (eO (oLst (sNil))))))
  (zSeq (r_filled_4a_1 C_is_word C_fits_part)
  (zNx))
  (zNx)
def r_filled_3a_1a_1 (C_is_word : Con) (C_fits_part : Con) : TPS :=
  zApp 3 (eO (o2 pIx (xV 4) (xE (eC (.int 1)))))
def r_filled_3a_1b_2 (C_is_word : Con) (C_fits_part : Con) : TPS :=
  zApp 3 (eO (oPopC 2 0))
def r_filled_3a_1b_1a_1 (C_is_word : Con) (C_fits_part : Con) : TPS :=
  zNever
def r_filled_3a_1b_1 (C_is_word : Con) (C_fits_part : Con) : TPS :=
  zIf (tOr (bO (o2 pEq (xV 2) (xE (eO (oLst (sNil)))))) (tOr (tNot (bO (oCall C_is_word [] (sCons (xE (eO (o2 pIx (xV 2) (xE (eC (.int 0)))))) (sNil))))) (tNot (bO (oCall C_fits_part [] (sCons (xE (eV 4)) (sCons (xE (eO (o2 pIx (xV 2) (xE (eC (.int 0)))))) (sNil))))))))
  (zSeq (r_filled_3a_1b_1a_1 C_is_word C_fits_part)
  (zNx))
  (zNx)
def r_filled_3a_1 (C_is_word : Con) (C_fits_part : Con) : TPS :=
  zIf (bO (o2 pEq (xE (eO (o2 pIx (xV 4) (xE (eC (.int 0)))))) (xE (eC (.str "word")))))
  (zSeq (r_filled_3a_1a_1 C_is_word C_fits_part)
  (zNx))
  (zSeq (r_filled_3a_1b_1 C_is_word C_fits_part)
  (zSeq (r_filled_3a_1b_2 C_is_word C_fits_part)
  (zNx)))
def r_filled_3f (C_is_word : Con) (C_fits_part : Con) : TPS :=
  zSeq (r_filled_3a_1 C_is_word C_fits_part)
  (zNx)
def r_filled_3 (C_is_word : Con) (C_fits_part : Con) : TPS :=
  zFor (iSq (eV 0)) (gNm 4)
  (r_filled_3f C_is_word C_fits_part)
def r_filled_2 (C_is_word : Con) (C_fits_part : Con) : TPS :=
  zSet 3 (oLst (sNil))
def r_filled_1 (C_is_word : Con) (C_fits_part : Con) : TPS :=
  zSet 2 (oN pList (s1 (xV 1)))
def r_filled (C_is_word : Con) (C_fits_part : Con) : TPS :=
  zSeq (r_filled_1 C_is_word C_fits_part)
  (zSeq (r_filled_2 C_is_word C_fits_part)
  (zSeq (r_filled_3 C_is_word C_fits_part)
  (zSeq (r_filled_4 C_is_word C_fits_part)
  (zSeq (r_filled_5 C_is_word C_fits_part)
  (zNx)))))
abbrev N_is_line : List Str := ["thing", "words", "word"]
def r_is_line_3 (C_is_word : Con) (C_words_of : Con) : TPS :=
  zRet (oE (eAnd (eO (o2 pLe (xE (eO (oN pLen (s1 (xV 1))))) (xE (eC (.int 12))))) (eO (oN pAll (s1 (xE (eO (oLc (iSq (eV 1)) (gNm 2) (tYes') (eO (oCall C_is_word [] (sCons (xE (eV 2)) (sNil)))) [2]))))))))
def r_is_line_2 (C_is_word : Con) (C_words_of : Con) : TPS :=
  zSet 1 (oCall C_words_of [] (sCons (xE (eV 0)) (sNil)))
def r_is_line_1a_1 (C_is_word : Con) (C_words_of : Con) : TPS :=
  zRet (oE (eC (.bool false)))
def r_is_line_1 (C_is_word : Con) (C_words_of : Con) : TPS :=
  zIf (tNot (bO (oIsi "str" (xV 0))))
  (zSeq (r_is_line_1a_1 C_is_word C_words_of)
  (zNx))
  (zNx)
def r_is_line (C_is_word : Con) (C_words_of : Con) : TPS :=
  zSeq (r_is_line_1 C_is_word C_words_of)
  (zSeq (r_is_line_2 C_is_word C_words_of)
  (zSeq (r_is_line_3 C_is_word C_words_of)
  (zNx)))
abbrev N_is_part : List Str := ["thing"]
def r_is_part_3 (C_is_word : Con) : TPS :=
  zRet (oE (eAnd (eO (o2 pEq (xE (eO (o2 pIx (xV 0) (xE (eC (.int 0)))))) (xE (eC (.str "hole"))))) (eAnd (eO (oIsi "str" (xE (eO (o2 pIx (xV 0) (xE (eC (.int 1)))))))) (eO (o2 (pIn false) (xE (eO (o2 pIx (xV 0) (xE (eC (.int 1)))))) (xE (eC (.tuple ((["number", "name", "any"] : List Str).map .str)))))))))
def r_is_part_2a_1 (C_is_word : Con) : TPS :=
  zRet (oCall C_is_word [] (sCons (xE (eO (o2 pIx (xV 0) (xE (eC (.int 1)))))) (sNil)))
def r_is_part_2 (C_is_word : Con) : TPS :=
  zIf (bO (o2 pEq (xE (eO (o2 pIx (xV 0) (xE (eC (.int 0)))))) (xE (eC (.str "word")))))
  (zSeq (r_is_part_2a_1 C_is_word)
  (zNx))
  (zNx)
def r_is_part_1a_1 (C_is_word : Con) : TPS :=
  zRet (oE (eC (.bool false)))
def r_is_part_1 (C_is_word : Con) : TPS :=
  zIf (tOr (tNot (bO (oIsi "tuple" (xV 0)))) (tOr (bO (o2 pNe (xE (eO (oN pLen (s1 (xV 0))))) (xE (eC (.int 2))))) (tNot (bO (oIsi "str" (xE (eO (o2 pIx (xV 0) (xE (eC (.int 0)))))))))))
  (zSeq (r_is_part_1a_1 C_is_word)
  (zNx))
  (zNx)
def r_is_part (C_is_word : Con) : TPS :=
  zSeq (r_is_part_1 C_is_word)
  (zSeq (r_is_part_2 C_is_word)
  (zSeq (r_is_part_3 C_is_word)
  (zNx)))
abbrev N_is_pattern : List Str := ["thing", "part"]
def r_is_pattern_1 (C_is_part : Con) : TPS :=
  zRet (oE (eAnd (eO (oIsi "list" (xV 0))) (eAnd (eO (oCh pLe pLe (xE (eC (.int 1))) (xE (eO (oN pLen (s1 (xV 0))))) (xE (eC (.int 12))))) (eO (oN pAll (s1 (xE (eO (oLc (iSq (eV 0)) (gNm 1) (tYes') (eO (oCall C_is_part [] (sCons (xE (eV 1)) (sNil)))) [1])))))))))
def r_is_pattern (C_is_part : Con) : TPS :=
  zSeq (r_is_pattern_1 C_is_part)
  (zNx)
abbrev N_fillings : List Str := ["pattern", "line", "part", "word"]
def r_fillings_2 (C_words_of : Con) (C_fits : Con) : TPS :=
  zRet (oLc (iZp (eV 0) (eO (oCall C_words_of [] (sCons (xE (eV 1)) (sNil))))) (gTp2 2 3) (bO (o2 pEq (xE (eO (o2 pIx (xV 2) (xE (eC (.int 0)))))) (xE (eC (.str "hole"))))) (eV 3) [2, 3])
def r_fillings_1a_1 (C_words_of : Con) (C_fits : Con) : TPS :=
  zNever
def r_fillings_1 (C_words_of : Con) (C_fits : Con) : TPS :=
  zIf (tNot (bO (oCall C_fits [] (sCons (xE (eV 0)) (sCons (xE (eV 1)) (sNil))))))
  (zSeq (r_fillings_1a_1 C_words_of C_fits)
  (zNx))
  (zNx)
def r_fillings (C_words_of : Con) (C_fits : Con) : TPS :=
  zSeq (r_fillings_1 C_words_of C_fits)
  (zSeq (r_fillings_2 C_words_of C_fits)
  (zNx))
abbrev N_show_part : List Str := ["part"]
def r_show_part_3 : TPS :=
  zRet (o2 pIx (xV 0) (xE (eC (.int 1))))
def r_show_part_2a_1 : TPS :=
  zRet (o2 pAdd (xE (eC (.str "="))) (xE (eO (o2 pIx (xV 0) (xE (eC (.int 1)))))))
def r_show_part_2 : TPS :=
  zIf (bO (o2 (pIn false) (xE (eO (o2 pIx (xE (eO (o2 pIx (xV 0) (xE (eC (.int 1)))))) (xE (eC (.int 0)))))) (xE (eC (.str "<=")))))
  (zSeq (r_show_part_2a_1)
  (zNx))
  (zNx)
def r_show_part_1a_1 : TPS :=
  zRet (o2 pAdd (xE (eO (o2 pAdd (xE (eC (.str "<"))) (xE (eO (o2 pIx (xV 0) (xE (eC (.int 1))))))))) (xE (eC (.str ">"))))
def r_show_part_1 : TPS :=
  zIf (bO (o2 pEq (xE (eO (o2 pIx (xV 0) (xE (eC (.int 0)))))) (xE (eC (.str "hole")))))
  (zSeq (r_show_part_1a_1)
  (zNx))
  (zNx)
def r_show_part : TPS :=
  zSeq (r_show_part_1)
  (zSeq (r_show_part_2)
  (zSeq (r_show_part_3)
  (zNx)))
abbrev N_show_pattern : List Str := ["pattern", "part"]
def r_show_pattern_1 (C_show_part : Con) : TPS :=
  zRet (oM pJoin (eC (.str " ")) (xE (eO (oLc (iSq (eV 0)) (gNm 1) (tYes') (eO (oCall C_show_part [] (sCons (xE (eV 1)) (sNil)))) [1]))))
def r_show_pattern (C_show_part : Con) : TPS :=
  zSeq (r_show_pattern_1 C_show_part)
  (zNx)
abbrev N_read_part : List Str := ["text", "kind"]
def r_read_part_4 : TPS :=
  zRet (oTup (sCons (xE (eC (.str "word"))) (sCons (xE (eV 0)) (sNil))))
def r_read_part_3a_1 : TPS :=
  zNever
def r_read_part_3 : TPS :=
  zIf (tOr (bO (o2 pEq (xV 0) (xE (eC (.str ""))))) (bO (o2 (pIn false) (xE (eO (o2 pIx (xV 0) (xE (eC (.int 0)))))) (xE (eC (.str "<="))))))
  (zSeq (r_read_part_3a_1)
  (zNx))
  (zNx)
def r_read_part_2a_1 : TPS :=
  zRet (oTup (sCons (xE (eC (.str "word"))) (sCons (xE (eO (oSl (xV 0) (tP1 (eC (.int 1))) (tP0)))) (sNil))))
def r_read_part_2 : TPS :=
  zIf (tAnd (bO (o2 pEq (xE (eO (oSl (xV 0) (tP0) (tP1 (eC (.int 1)))))) (xE (eC (.str "="))))) (tAnd (bO (o2 pNe (xE (eO (oSl (xV 0) (tP1 (eC (.int 1))) (tP1 (eC (.int 2)))))) (xE (eC (.str ""))))) (bO (o2 (pIn false) (xE (eO (o2 pIx (xV 0) (xE (eC (.int 1)))))) (xE (eC (.str "<=")))))))
  (zSeq (r_read_part_2a_1)
  (zNx))
  (zNx)
def r_read_part_1a_1a_1 : TPS :=
  zRet (oTup (sCons (xE (eC (.str "hole"))) (sCons (xE (eV 1)) (sNil))))
def r_read_part_1a_1 : TPS :=
  zIf (bO (o2 pEq (xV 0) (xE (eO (o2 pAdd (xE (eO (o2 pAdd (xE (eC (.str "<"))) (xV 1)))) (xE (eC (.str ">"))))))))
  (zSeq (r_read_part_1a_1a_1)
  (zNx))
  (zNx)
def r_read_part_1f : TPS :=
  zSeq (r_read_part_1a_1)
  (zNx)
def r_read_part_1 : TPS :=
  zFor (iTp (eC (.tuple ((["number", "name", "any"] : List Str).map .str)))) (gNm 1)
  (r_read_part_1f)
def r_read_part : TPS :=
  zSeq (r_read_part_1)
  (zSeq (r_read_part_2)
  (zSeq (r_read_part_3)
  (zSeq (r_read_part_4)
  (zNx))))
abbrev N_read_pattern : List Str := ["text", "pattern", "part"]
def r_read_pattern_3 (C_is_pattern : Con) (C_read_part : Con) : TPS :=
  zRet (oV 1)
def r_read_pattern_2a_1 (C_is_pattern : Con) (C_read_part : Con) : TPS :=
  zNever
def r_read_pattern_2 (C_is_pattern : Con) (C_read_part : Con) : TPS :=
  zIf (tNot (bO (oCall C_is_pattern [] (sCons (xE (eV 1)) (sNil)))))
  (zSeq (r_read_pattern_2a_1 C_is_pattern C_read_part)
  (zNx))
  (zNx)
def r_read_pattern_1 (C_is_pattern : Con) (C_read_part : Con) : TPS :=
  zSet 1 (oLc (iSq (eO (oM pSplit (eV 0) (xE (eC (.str " ")))))) (gNm 2) (tYes') (eO (oCall C_read_part [] (sCons (xE (eV 2)) (sNil)))) [2])
def r_read_pattern (C_is_pattern : Con) (C_read_part : Con) : TPS :=
  zSeq (r_read_pattern_1 C_is_pattern C_read_part)
  (zSeq (r_read_pattern_2 C_is_pattern C_read_part)
  (zSeq (r_read_pattern_3 C_is_pattern C_read_part)
  (zNx)))
end Tx
namespace Tx
open PySem PySem.Spec L2 Pl
def Deck (n : Nat) (d : List D) : Prop := ∃ a b c : Int, d = [.int a, .int b, .int c] ∧ 0 ≤ a ∧ 0 ≤ b ∧ b < 2147483647 ∧ 0 ≤ c ∧ c + n ≤ 1000000000
def C_pick : Con := fun os post => ∃ (n : Nat) (d : List D) (many : Int), os = [.fl d, .sh (.int many)] ∧ Deck (n + 1) d ∧ 0 < many ∧ many ≤ 1000000000000000 ∧
  ∀ r d', 0 ≤ r → r < many → Deck n d' → post (.sh (.int r)) [.fl d', .sh (.int many)]
theorem pow_bd {i : Int} {k : Nat} (h0 : 0 ≤ i) (h : i < 2 ^ 63) : CPow i (k : Nat) ↔ k ≤ 1000000 := by
  unfold CPow
  constructor
  · intro h; omega
  · intro h
    refine ⟨by omega, by omega, ?_⟩
    have : (2 : Nat) ^ 64 = 18446744073709551616 := by decide
    have : (2 : Int) ^ 63 = 9223372036854775808 := by decide
    omega
theorem cpow {i : Int} {k : Int} (h0 : 0 ≤ i) (h : i ≤ 1000000000000000000) (hk : 0 ≤ k) (hk2 : k ≤ 100) : CPow i k := by
  refine ⟨hk, by omega, ?_⟩
  have : (2 : Nat) ^ 64 = 18446744073709551616 := by decide
  omega
theorem cmulL {i j : Int} (h0 : 0 ≤ i) (h : i ≤ 1000000000000000000) : CMul i j := by
  refine .inl ⟨?_, ?_⟩
  · have : (2 : Int) ^ 64 = 18446744073709551616 := by decide
    omega
  · have : (2 : Int) ^ 64 = 18446744073709551616 := by decide
    omega
theorem cdiv {i j : Int} (h : 0 < j) (h2 : j ≤ 1000000000000000) : CDivW i j := wide_div (b := 64) h (by
  have : (2 : Nat) ^ 64 = 18446744073709551616 := by decide
  omega) (by omega) (by omega)
theorem h_pick : ∀ os post, C_pick os post → os.length = 2 ∧ r__law_pick (dEnds [0] os post) (start0 N__law_pick.length os) := by
  rintro os post ⟨n, d, many, rfl, ⟨a, b, c, rfl, h1, h2, h3, h4, h5⟩, h6, h7, k⟩
  refine ⟨rfl, ?_⟩
  conv => whnf
  split
  · rename_i e
    conv => whnf
    refine ⟨h6, ?_⟩
    conv => whnf
    refine ⟨cdiv h6 h7, ?_⟩
    exact k _ _ (Int.emod_nonneg _ (by omega)) (Int.emod_lt_of_pos _ h6) ⟨_, b, c, rfl, Int.ediv_nonneg h1 (by omega), h2, h3, h4, by omega⟩
  · rename_i e
    conv => whnf
    refine ⟨cmulL (by omega) (by omega), ?_⟩
    conv => whnf
    refine ⟨cpow (by omega) (by omega) (by omega) (by omega), ?_⟩
    conv => whnf
    refine ⟨by omega, ?_⟩
    conv => whnf
    refine ⟨cmulL (by omega) (by omega), ?_⟩
    conv => whnf
    generalize hx : ((b + 15485867 * (c + 1)) ^ Int.toNat 5 % 2147483647) = x
    have x0 : 0 ≤ x := by rw [← hx]; exact Int.emod_nonneg _ (by omega)
    have x1 : x < 2147483647 := by rw [← hx]; exact Int.emod_lt_of_pos _ (by omega)
    refine ⟨cpow (by omega) (by omega) (by omega) (by omega), ?_⟩
    conv => whnf
    refine ⟨by omega, ?_⟩
    conv => whnf
    refine ⟨cdiv (by omega) (by omega), ?_⟩
    conv => whnf
    split
    · conv => whnf
      refine ⟨.inr ⟨by decide, by decide⟩, ?_⟩
      conv => whnf
      refine ⟨h6, ?_⟩
      exact k _ _ (Int.emod_nonneg _ (by omega)) (Int.emod_lt_of_pos _ h6) ⟨a, b, _, rfl, h1, h2, h3, by omega, by omega⟩
    · conv => whnf
      refine ⟨h6, ?_⟩
      exact k _ _ (Int.emod_nonneg _ (by omega)) (Int.emod_lt_of_pos _ h6) ⟨a, b, _, rfl, h1, h2, h3, by omega, by omega⟩
end Tx
namespace Pl
open PySem PySem.Spec L2
/-! ### loops by invariants -/
theorem lc_ind {g : TPg} {tt : TPt} {te : TPe} {vs : List Nat} {Q : O → Ev → Prop} (I : List D → Ev → List D → Prop) (h0 : ∀ ρ acc, I [] ρ acc → Q (.fl acc) ρ)
    (hs : ∀ d ds ρ acc (R : Ev → List D → Prop), I (d :: ds) ρ acc → (∀ ρ' acc', I ds ρ' acc' → R ρ' acc') → g d (wipeE ρ vs) fun ρ1 => tt ρ1 fun b ρ2 => match b with
      | true => te ρ2 fun y ρ3 => R (back ρ ρ3 vs) (acc ++ [y])
      | false => R (back ρ ρ2 vs) acc) : ∀ ds ρ acc, I ds ρ acc → lcR g tt te vs Q ds ρ acc
  | [], ρ, acc, h => h0 ρ acc h
  | d :: ds, ρ, acc, h => hs d ds ρ acc (lcR g tt te vs Q ds) h fun ρ' acc' h' => lc_ind I h0 hs ds ρ' acc' h'
/-- nothing of the names is changed: a filter and a map -/
theorem lc_fm {g : TPg} {tt : TPt} {te : TPe} {vs : List Nat} {Q : O → Ev → Prop} (f : D → Option D) (P : D → Prop) (ρ : Ev)
    (hs : ∀ d, P d → ∀ (R : Ev → List D → Prop) acc, R ρ (acc ++ (f d).toList) → g d (wipeE ρ vs) fun ρ1 => tt ρ1 fun b ρ2 => match b with
      | true => te ρ2 fun y ρ3 => R (back ρ ρ3 vs) (acc ++ [y])
      | false => R (back ρ ρ2 vs) acc) : ∀ ds acc, (∀ d ∈ ds, P d) → Q (.fl (acc ++ ds.filterMap f)) ρ → lcR g tt te vs Q ds ρ acc
  | [], acc, _, q => by rw [List.filterMap_nil, List.append_nil] at q; exact q
  | d :: ds, acc, hp, q => by
    refine hs d (hp d (List.mem_cons_self ..)) (lcR g tt te vs Q ds) acc (lc_fm f P ρ hs ds _ (fun x hx => hp x (List.mem_cons_of_mem _ hx)) ?_)
    rw [List.append_assoc]
    have e : (f d).toList ++ ds.filterMap f = (d :: ds).filterMap f := by
      rw [List.filterMap_cons]
      cases f d <;> rfl
    rw [e]; exact q
theorem loop_ind {g : TPg} {tb : TPS} {rt : O → Ev → Prop} {nx : Ev → Prop} (I : List D → Ev → Prop) (h0 : ∀ ρ, I [] ρ → nx ρ)
    (hs : ∀ d ds ρ (R : Ev → Prop), I (d :: ds) ρ → (∀ ρ', I ds ρ' → R ρ') → g d ρ fun ρ1 => tb { nx := R, rt := rt } ρ1) : ∀ ds ρ, I ds ρ → loopR g tb rt nx ds ρ
  | [], ρ, h => h0 ρ h
  | d :: ds, ρ, h => hs d ds ρ (loopR g tb rt nx ds) h fun ρ' h' => loop_ind I h0 hs ds ρ' h'
/-! ### signs -/
theorem lt_one (a b : Nat) : ([a] < [b]) ↔ (a < b) := by
  constructor
  · intro h
    cases h with
    | rel h => exact h
    | cons h => cases h
  · intro h; exact List.Lex.rel h
theorem le_sgn (a b : Nat) : strLe (sgn a) (sgn b) = decide (a ≤ b) := by
  show (!decide ([b] < [a])) = _
  by_cases h : a ≤ b
  · rw [decide_eq_true h, decide_eq_false (fun z => by have := (lt_one b a).mp z; omega)]; rfl
  · rw [decide_eq_false h, decide_eq_true ((lt_one b a).mpr (by omega))]; rfl
/-! ### == -/
theorem er_vw (d : D) : er (vw d) = er d := by cases d <;> rfl
theorem eqv_str (a b : Str) : (er (.str a)).eqv (er (.str b)) = decide (a = b) := by
  show (PyData.str a).eqv (.str b) = _
  simp only [PyData.eqv]
  by_cases h : a = b
  · subst h; simp
  · rw [decide_eq_false h]; simpa using h
theorem eqv_int (a b : Int) : (er (.int a)).eqv (er (.int b)) = decide (a = b) := by
  show (PyData.int a).eqv (.int b) = _
  simp only [PyData.eqv]
  by_cases h : a = b
  · subst h; simp
  · rw [decide_eq_false h]; simpa using h
theorem eqv_nil (xs : List D) : (er (.nl xs)).eqv (er (.nl [])) = xs.isEmpty := by
  show (PyData.list (erAll xs)).eqv (.list []) = _
  rw [erAll_map]
  cases xs <;> simp [PyData.eqv, PyData.eqvAll]
theorem dR {d e : PyData} (h : e.depth ≤ 64) : min d.depth e.depth ≤ 64 := Nat.le_trans (Nat.min_le_right _ _) h
theorem dL {d e : PyData} (h : d.depth ≤ 64) : min d.depth e.depth ≤ 64 := Nat.le_trans (Nat.min_le_left _ _) h
theorem ch_sgn (a b : Nat) {c i : Nat} {ρ : Ev} {Q : Bool → Ev → Prop} (h : ρ[i]? = some (some (.sh (.str (sgn c))))) (q : Q (decide (a ≤ c ∧ c ≤ b)) ρ) : bO (oCh pLe pLe (xE (eC (.str (sgn a)))) (xV i) (xE (eC (.str (sgn b))))) ρ Q := by
  simp only [bO, oCh, xE, eC, xV, h, res, rdO, vw, fz, pLe, le_sgn]
  by_cases h1 : a ≤ c
  · rw [decide_eq_true h1]
    simp only [le_sgn]
    have e : decide (a ≤ c ∧ c ≤ b) = decide (c ≤ b) := by simp [h1]
    rw [← e]; exact q
  · rw [decide_eq_false h1]
    have e : decide (a ≤ c ∧ c ≤ b) = false := by simp [h1]
    rw [e] at q
    exact q
theorem d_str (z : Str) : (er (.str z)).depth ≤ 64 := Nat.zero_le _
theorem d_nil : (er (.nl [])).depth ≤ 64 := by decide
theorem d_int (z : Int) : (er (.int z)).depth ≤ 64 := Nat.zero_le _
end Pl
namespace Tx
open PySem PySem.Spec L2 Pl
def lfig (w : Str) : Str := if cutS w none (some 1) = "-" then cutS w (some 1) none else w
def btw (a b : Nat) (w : Str) : Prop := ∀ c ∈ w.cps.toList, a ≤ c ∧ c ≤ b
instance (a b : Nat) (w : Str) : Decidable (btw a b w) := by unfold btw; exact inferInstance
abbrev figs (w : Str) : Prop := btw 48 57 w
abbrev lets (w : Str) : Prop := btw 97 122 w
def lkind (w : Str) : Str := if lfig w ≠ "" ∧ figs (lfig w) then "number" else if lets w then "name" else "other"
def C_kind : Con := fun os post => ∃ w : Str, os = [.sh (.str w)] ∧ w.length ≤ sizeLine ∧ post (.sh (.str (lkind w))) os
theorem kind1 {w : Str} (hl : w.length ≤ sizeLine) (D : PEnds) (h : D.nx [some (.sh (.str w)), some (.sh (.str (lfig w))), none]) : r__law_kind_1 D [some (.sh (.str w)), none, none] := by
  conv => whnf
  refine ⟨hl, ?_⟩
  conv => whnf
  refine ⟨dR (d_str _), ?_⟩
  conv => whnf
  rw [er_vw, er_vw, eqv_str]
  split
  · rename_i e
    have e := of_decide_eq_true e
    conv => whnf
    refine ⟨hl, ?_⟩
    have ef : lfig w = cutS w (some 1) none := if_pos e
    rw [ef] at h
    exact h
  · rename_i e
    have e := of_decide_eq_false e
    have ef : lfig w = w := if_neg e
    rw [ef] at h
    exact h
/-- the signs that are not between two others -/
def offF (a b : Nat) : D → Option D := fun d => match d with
  | .str z => if strLe (sgn a) z && strLe z (sgn b) then none else some (.str z)
  | _ => none
def offs (a b : Nat) (w : Str) : List D := (w.cps.toList.map fun c => D.str (sgn c)).filterMap (offF a b)
theorem offF_sgn (a b c : Nat) : offF a b (.str (sgn c)) = if decide (a ≤ c ∧ c ≤ b) then none else some (.str (sgn c)) := by
  unfold offF
  dsimp only
  rw [le_sgn, le_sgn]
  by_cases h1 : a ≤ c
  · by_cases h2 : c ≤ b
    · simp [h1, h2]
    · simp [h1, h2]
  · simp [h1]
theorem offs_nil (a b : Nat) (w : Str) : (offs a b w).isEmpty = decide (btw a b w) := by
  have go : (offs a b w).isEmpty = decide (∀ c ∈ w.cps.toList, a ≤ c ∧ c ≤ b) := by
    unfold offs
    induction w.cps.toList with
    | nil => rfl
    | cons c l ih =>
      rw [List.map_cons, List.filterMap_cons, offF_sgn]
      by_cases h : a ≤ c ∧ c ≤ b
      · rw [decide_eq_true h, if_pos rfl, ih]
        apply decide_eq_decide.mpr
        simp [h]
      · rw [decide_eq_false h, if_neg Bool.false_ne_true, List.isEmpty_cons]
        symm
        rw [decide_eq_false_iff_not]
        intro z
        exact h (z c (List.mem_cons_self ..))
  rw [go]
  exact decide_eq_decide.mpr Iff.rfl
theorem offs_ok {a b i : Nat} {ρ : Ev} {w : Str} {Q : O → Ev → Prop} (hw : w.length ≤ sizeLine) (ti : TPi) (hi : ∀ K, K (w.cps.toList.map fun c => D.str (sgn c)) ρ → ti ρ K) (hb : ∀ d, (wipeE ρ [i]).set i (some d) = (back ρ ((wipeE ρ [i]).set i (some d)) [i]).set i (some d))
    (hl : i < ρ.length) (q : Q (.fl (offs a b w)) ρ) (hb2 : ∀ d, back ρ (((wipeE ρ [i]).set i (some d)).set i (some d)) [i] = ρ) (hb3 : ∀ d, back ρ ((wipeE ρ [i]).set i (some d)) [i] = ρ) (hL : (wipeE ρ [i]).length = ρ.length) :
    oLc ti (gNm i) (tNot (bO (oCh pLe pLe (xE (eC (.str (sgn a)))) (xV i) (xE (eC (.str (sgn b))))))) (eV i) [i] ρ Q := by
  refine hi _ ⟨by rw [List.length_map, Array.length_toList]; exact hw, ?_⟩
  refine lc_fm (offF a b) (fun d => ∃ c, d = .str (sgn c)) ρ ?_ _ _ ?_ q
  · rintro d ⟨c, rfl⟩ R acc hR
    have hs : ((wipeE ρ [i]).set i (some (.sh (.str (sgn c)))))[i]? = some (some (.sh (.str (sgn c)))) := by rw [List.getElem?_set_self (by rw [hL]; exact hl)]
    refine ch_sgn a b (c := c) hs ?_
    rw [offF_sgn] at hR
    by_cases h : a ≤ c ∧ c ≤ b
    · rw [decide_eq_true h] at hR ⊢
      rw [if_pos rfl] at hR
      simp only [Option.toList_none, List.append_nil] at hR
      show R (back ρ _ [i]) acc
      rw [hb3]; exact hR
    · rw [decide_eq_false h] at hR ⊢
      rw [if_neg Bool.false_ne_true] at hR
      show eV i ((wipeE ρ [i]).set i (some (.sh (.str (sgn c))))) fun y ρ3 => R (back ρ ρ3 [i]) (acc ++ [y])
      unfold eV
      rw [hs]
      dsimp only [fz]
      rw [hb2]; exact hR
  · intro d hd
    obtain ⟨c, _, rfl⟩ := List.mem_map.mp hd
    exact ⟨c, rfl⟩
theorem kind2 {w f : Str} (hl : f.length ≤ sizeLine) (D : PEnds) (h1 : f ≠ "" ∧ figs f → D.rt (.sh (.str "number")) [some (.sh (.str w)), some (.sh (.str f)), none])
    (h2 : ¬ (f ≠ "" ∧ figs f) → D.nx [some (.sh (.str w)), some (.sh (.str f)), none]) : r__law_kind_2 D [some (.sh (.str w)), some (.sh (.str f)), none] := by
  conv => whnf
  refine ⟨dR (d_str _), ?_⟩
  conv => whnf
  rw [er_vw, er_vw, eqv_str]
  split
  · rename_i e
    have e : f ≠ "" := by simpa using e
    refine offs_ok (a := 48) (b := 57) (i := 2) (w := f) (ρ := [some (.sh (.str w)), some (.sh (.str f)), none]) hl _ (fun K h => h) (fun _ => rfl) (Nat.lt_succ_self 2) ?_ (fun _ => rfl) (fun _ => rfl) rfl
    conv => whnf
    refine ⟨dR d_nil, ?_⟩
    conv => whnf
    rw [er_vw, er_vw, eqv_nil, offs_nil]
    by_cases h : figs f
    · rw [decide_eq_true h]; exact h1 ⟨e, h⟩
    · rw [decide_eq_false h]; exact h2 fun z => h z.2
  · rename_i e
    have e : f = "" := by simpa using e
    exact h2 fun z => z.1 e
theorem kind3 {w f : Str} (hl : w.length ≤ sizeLine) (D : PEnds) (h : D.rt (.sh (.str (if lets w then ("name" : Str) else "other"))) [some (.sh (.str w)), some (.sh (.str f)), none]) : r__law_kind_3 D [some (.sh (.str w)), some (.sh (.str f)), none] := by
  refine offs_ok (a := 97) (b := 122) (i := 2) (w := w) (ρ := [some (.sh (.str w)), some (.sh (.str f)), none]) hl _ (fun K h => h) (fun _ => rfl) (Nat.lt_succ_self 2) ?_ (fun _ => rfl) (fun _ => rfl) rfl
  conv => whnf
  refine ⟨dR d_nil, ?_⟩
  conv => whnf
  rw [er_vw, er_vw, eqv_nil, offs_nil]
  by_cases e : lets w
  · rw [decide_eq_true e]; rw [if_pos e] at h; exact h
  · rw [decide_eq_false e]; rw [if_neg e] at h; exact h
theorem lfig_len (w : Str) : (lfig w).length ≤ w.length := by
  unfold lfig
  split
  · unfold cutS
    show (List.toArray _).size ≤ _
    rw [List.size_toArray, List.length_take, List.length_drop, Array.length_toList]
    show _ ≤ w.cps.size
    omega
  · exact Nat.le_refl _
theorem h_kind : ∀ os post, C_kind os post → os.length = 1 ∧ r__law_kind (dEnds [] os post) (start0 N__law_kind.length os) := by
  rintro os post ⟨w, rfl, hl, k⟩
  refine ⟨rfl, kind1 hl _ ?_⟩
  refine kind2 (Nat.le_trans (lfig_len w) hl) _ (fun h => ?_) (fun h => kind3 hl _ ?_)
  · have e : lkind w = "number" := if_pos h
    rw [e] at k
    exact k
  · have e : lkind w = if lets w then ("name" : Str) else "other" := if_neg h
    rw [e] at k
    exact k
end Tx
namespace Pl
open PySem PySem.Spec L2
theorem at_in {α : Type} {l : List α} {i : Int} (h0 : 0 ≤ i) (h1 : i < l.length) : atI l i ≠ none := by
  unfold atI ixN
  rw [if_pos h0, if_pos h1]
  intro e
  have e : l[i.toNat]? = none := e
  rw [List.getElem?_eq_none_iff] at e
  omega
theorem at_mem {α : Type} {l : List α} {i : Int} {x : α} (h : atI l i = some x) : x ∈ l := by
  unfold atI at h
  cases e : ixN l.length i with
  | none => rw [e] at h; cases h
  | some j =>
    rw [e] at h
    have h : l[j]? = some x := h
    exact List.mem_of_getElem? h
theorem at_get {α : Type} {l : List α} {i : Int} {x : α} (h : atI l i = some x) (h0 : 0 ≤ i) : l[i.toNat]? = some x := by
  unfold atI ixN at h
  rw [if_pos h0] at h
  split at h
  · exact h
  · cases h
theorem rng_len (lo : Int) (n : Nat) : (rng lo n).length = n := by unfold rng; rw [List.length_map, List.length_range]
end Pl
namespace Tx
open PySem PySem.Spec L2 Pl
def okc (c : Nat) : Prop := (33 ≤ c ∧ c ≤ 36) ∨ (38 ≤ c ∧ c ≤ 126)
instance (c : Nat) : Decidable (okc c) := by unfold okc; exact inferInstance
def IsWd (w : Str) : Prop := 1 ≤ w.length ∧ w.length ≤ 1000 ∧ ∀ c ∈ w.cps.toList, okc c
instance (w : Str) : Decidable (IsWd w) := by unfold IsWd; exact inferInstance
theorem Deck.le {n m : Nat} {d : List D} (h : Deck n d) (k : m ≤ n) : Deck m d := by
  obtain ⟨a, b, c, e, h1, h2, h3, h4, h5⟩ := h
  exact ⟨a, b, c, e, h1, h2, h3, h4, by omega⟩
def C_word : Con := fun os post => ∃ (n : Nat) (d : List D), os = [.fl d] ∧ Deck (n + 8) d ∧ ∀ w d', IsWd w → Deck n d' → post (.sh (.str w)) [.fl d']
theorem mem_wds {x : D} {l : List Str} (h : x ∈ l.map Pl.D.str) (k : ∀ w ∈ l, IsWd w) : ∃ w, x = .str w ∧ IsWd w := by
  obtain ⟨w, hw, rfl⟩ := List.mem_map.mp h
  exact ⟨w, rfl, k w hw⟩
theorem join_sgns (cs : List Nat) : (Txt.join "" (cs.map sgn)).cps.toList = cs := by
  rw [TL.join_eq]
  show TL.tl (Str.join "" (cs.map sgn)) = cs
  rw [TL.tl_join]
  have go : ∀ cs : List Nat, TL.joinL (TL.tl "") ((cs.map sgn).map TL.tl) = cs := by
    intro cs
    induction cs with
    | nil => rfl
    | cons c r ih =>
      cases r with
      | nil => rfl
      | cons c' r =>
        show [c] ++ (TL.tl "" ++ TL.joinL (TL.tl "") (((c' :: r).map sgn).map TL.tl)) = _
        rw [ih]; rfl
  exact go cs
theorem wd_sgns {cs : List Nat} (h0 : cs ≠ []) (h1 : cs.length ≤ 100) (h : ∀ c ∈ cs, okc c) : IsWd (Txt.join "" (cs.map sgn)) := by
  refine ⟨?_, ?_, ?_⟩
  · rw [TL.len_tl, TL.tl, join_sgns]
    cases cs with
    | nil => exact absurd rfl h0
    | cons => simp
  · rw [TL.len_tl, TL.tl, join_sgns]; omega
  · rw [join_sgns]; exact h
theorem sgns_sum : ∀ cs : List Nat, ((cs.map sgn).map (·.length)).sum = cs.length
  | [] => rfl
  | c :: r => by rw [List.map_cons, List.map_cons, List.sum_cons, sgns_sum r, List.length_cons]; show 1 + r.length = r.length + 1; omega
theorem h_word : ∀ os post, C_word os post → os.length = 1 ∧ r__law_word C_pick (dEnds [0] os post) (start0 N__law_word.length os) := by
  rintro os post ⟨n, d, rfl, hd, k⟩
  refine ⟨rfl, ?_⟩
  conv => whnf
  refine ⟨n + 7, d, 12, rfl, hd, by decide, by decide, fun r d1 r0 r1 hd1 => ?_⟩
  conv => whnf
  split
  · conv => whnf
    refine ⟨n + 6, d1, 3, rfl, hd1, by decide, by decide, fun q d2 q0 q1 hd2 => ?_⟩
    conv => whnf
    split
    · rename_i x ex
      obtain ⟨w, rfl, hw⟩ := mem_wds (l := ["get", "put", "a"]) (at_mem ex) (by decide +kernel)
      exact k w d2 hw (hd2.le (by omega))
    · rename_i ex
      exact absurd ex (at_in q0 q1)
  · conv => whnf
    split
    · conv => whnf
      refine ⟨n + 6, d1, 5, rfl, hd1, by decide, by decide, fun q d2 q0 q1 hd2 => ?_⟩
      conv => whnf
      split
      · rename_i x ex
        obtain ⟨w, rfl, hw⟩ := mem_wds (l := ["0", "7", "12", "-3", "007"]) (at_mem ex) (by decide +kernel)
        exact k w d2 hw (hd2.le (by omega))
      · rename_i ex
        exact absurd ex (at_in q0 q1)
    · conv => whnf
      split
      · conv => whnf
        refine ⟨n + 6, d1, 8, rfl, hd1, by decide, by decide, fun q d2 q0 q1 hd2 => ?_⟩
        conv => whnf
        split
        · rename_i x ex
          obtain ⟨w, rfl, hw⟩ := mem_wds (l := ["id=4", "<any>", "=", "x1", "-", "A", "<", "none"]) (at_mem ex) (by decide +kernel)
          exact k w d2 hw (hd2.le (by omega))
        · rename_i ex
          exact absurd ex (at_in q0 q1)
      · rename_i h8
        have h8 := of_decide_eq_false h8
        conv => whnf
        split
        · rename_i x ex
          have hx : ∃ z : Str, x = .str z ∧ 1 ≤ z.length ∧ z.length ≤ 100 ∧ ∀ c ∈ z.cps.toList, okc c := by
            have hm := at_mem ex
            have all : ∀ z ∈ (["abcdefghijklmnopqrstuvwxyz", "0123456789", "-09az", "!\"#$&'()*+,-./:;<=>?@AZ[\\]^_{|}~"] : List Str), 1 ≤ z.length ∧ z.length ≤ 100 ∧ ∀ c ∈ z.cps.toList, okc c := by decide +kernel
            obtain ⟨z, hz, rfl⟩ := List.mem_map.mp (show x ∈ (["abcdefghijklmnopqrstuvwxyz", "0123456789", "-09az", "!\"#$&'()*+,-./:;<=>?@AZ[\\]^_{|}~"] : List Str).map Pl.D.str from hm)
            exact ⟨z, rfl, all z hz⟩
          obtain ⟨z, rfl, z1, z2, zc⟩ := hx
          conv => whnf
          refine ⟨n + 6, d1, 4, rfl, hd1, by decide, by decide, fun q d2 q0 q1 hd2 => ?_⟩
          conv => whnf
          refine ⟨by omega, ?_⟩
          conv => whnf
          refine ⟨by omega, ?_⟩
          conv => whnf
          refine ⟨by rw [rng_len]; have := sizeLine_eq; omega, ?_⟩
          refine lc_ind (fun ds ρ acc => ∃ d' cs, Deck (n + ds.length) d' ∧ ρ = [some (.fl d'), some (.sh (.int r)), some (.sh (.str z)), none] ∧ acc = (cs.map sgn).map Pl.D.str ∧ (∀ c ∈ cs, okc c) ∧ cs.length + ds.length = (1 + q).toNat) ?_ ?_ _ _ _ ⟨d2, [], hd2.le (by rw [rng_len]; omega), rfl, rfl, by simp, by rw [rng_len]; simp⟩
          · rintro ρ acc ⟨d', cs, e1, rfl, rfl, e2, e3⟩
            have e3 : cs.length = (1 + q).toNat := by simpa using e3
            conv => whnf
            rw [strsOf_map]
            conv => whnf
            refine ⟨?_, ?_⟩
            · rw [sgns_sum, List.length_map]
              show cs.length + cs.length * 0 ≤ 16777216
              omega
            · refine k _ d' (wd_sgns ?_ (by omega) e2) (e1.le (by omega))
              intro z0
              rw [z0] at e3
              simp at e3
              omega
          · rintro x ds ρ acc R ⟨d', cs, e1, rfl, rfl, e2, e3⟩ hR
            conv => whnf
            refine ⟨by have := sizeLine_eq; omega, ?_⟩
            conv => whnf
            refine ⟨n + ds.length, d', z.length, rfl, e1, by omega, by omega, fun p d3 p0 p1 hd3 => ?_⟩
            conv => whnf
            refine ⟨by have := sizeLine_eq; omega, ?_⟩
            split
            · rename_i c ec
              refine hR _ _ ⟨d3, cs ++ [c], hd3, rfl, by simp, ?_, ?_⟩
              · intro c' hc
                rcases List.mem_append.mp hc with hc | hc
                · exact e2 c' hc
                · rw [List.mem_singleton.mp hc]; exact zc c (at_mem ec)
              · rw [List.length_append, List.length_singleton]
                rw [List.length_cons] at e3
                omega
            · rename_i ec
              refine absurd ec (at_in p0 ?_)
              rw [Array.length_toList]
              exact p1
        · rename_i ex
          refine at_in ?_ ?_ ex
          · omega
          · show r - 8 < 4
            omega
/-! ### lines -/
def IsLn (n : Nat) (z : Str) : Prop := ∃ ws : List Str, z = Txt.join " " ws ∧ ws ≠ [] ∧ ws.length ≤ n ∧ ∀ w ∈ ws, IsWd w
theorem sum_le (b : Nat) : ∀ ws : List Str, (∀ w ∈ ws, w.length ≤ b) → (ws.map (·.length)).sum ≤ b * ws.length
  | [], _ => by simp
  | w :: r, h => by
    have h1 := h w (List.mem_cons_self ..)
    have h2 := sum_le b r fun x hx => h x (List.mem_cons_of_mem _ hx)
    rw [List.map_cons, List.sum_cons, List.length_cons, Nat.mul_add]
    omega
theorem join_len (ws : List Str) (h : ∀ w ∈ ws, w.length ≤ 1000) : (Txt.join " " ws).length ≤ 1001 * ws.length := by
  rw [TL.join_eq]
  have h1 := StrLaws.join_length_le " " ws
  have h2 := sum_le 1000 ws h
  have h3 : (" " : Str).length = 1 := by decide
  rw [h3] at h1
  omega
theorem IsLn.len {n : Nat} {z : Str} (h : IsLn n z) : z.length ≤ 1001 * n := by
  obtain ⟨ws, rfl, _, h2, h3⟩ := h
  have := join_len ws fun w hw => (h3 w hw).2.1
  omega
theorem wd_blank {w : Str} (h : IsWd w) : 32 ∉ w.cps.toList := fun z => by
  have := h.2.2 32 z
  revert this; decide
theorem split_ln {ws : List Str} (h0 : ws ≠ []) (h : ∀ w ∈ ws, 32 ∉ w.cps.toList) : Txt.split (Txt.join " " ws) " " = ws :=
  TL.split_join (y := " ") (s := 32) (S := []) (by decide +kernel) (by decide +kernel) h0 h
def C_line : Con := fun os post => ∃ (n m : Nat) (d : List D), os = [.fl d, .sh (.int m)] ∧ Deck (n + (1 + 8 * m)) d ∧ 1 ≤ m ∧ m ≤ 1000 ∧ ∀ z d', IsLn m z → Deck n d' → post (.sh (.str z)) [.fl d', .sh (.int m)]
theorem h_line : ∀ os post, C_line os post → os.length = 2 ∧ r__law_line C_pick C_word (dEnds [0] os post) (start0 N__law_line.length os) := by
  rintro os post ⟨n, m, d, rfl, hd, m1, m2, k⟩
  refine ⟨rfl, ?_⟩
  conv => whnf
  refine ⟨n + 8 * m, d, m, rfl, hd.le (by omega), by omega, by omega, fun r d1 r0 r1 hd1 => ?_⟩
  conv => whnf
  refine ⟨by omega, ?_⟩
  conv => whnf
  refine ⟨by omega, ?_⟩
  conv => whnf
  refine ⟨by rw [rng_len]; have := sizeLine_eq; omega, ?_⟩
  refine lc_ind (fun ds ρ acc => ∃ d' ws, Deck (n + 8 * ds.length) d' ∧ ρ = [some (.fl d'), some (.sh (.int m)), none] ∧ acc = (ws : List Str).map Pl.D.str ∧ (∀ c ∈ ws, IsWd c) ∧ ws.length + ds.length = (1 + r).toNat) ?_ ?_ _ _ _ ⟨d1, [], hd1.le (by rw [rng_len]; omega), rfl, rfl, by simp, by rw [rng_len]; simp⟩
  · rintro ρ acc ⟨d', ws, e1, rfl, rfl, e2, e3⟩
    have e3 : ws.length = (1 + r).toNat := by simpa using e3
    conv => whnf
    rw [strsOf_map]
    conv => whnf
    refine ⟨?_, ?_⟩
    · have h2 := sum_le 1000 ws fun w hw => (e2 w hw).2.1
      show _ + ws.length * 1 ≤ 16777216
      omega
    · refine k _ d' ⟨ws, rfl, ?_, by omega, e2⟩ (e1.le (by omega))
      intro z0
      rw [z0] at e3
      simp at e3
      omega
  · rintro x ds ρ acc R ⟨d', ws, e1, rfl, rfl, e2, e3⟩ hR
    rw [List.length_cons] at e1 e3
    conv => whnf
    refine ⟨n + 8 * ds.length, d', rfl, e1.le (by omega), fun w d3 hw hd3 => ?_⟩
    refine hR _ _ ⟨d3, ws ++ [w], hd3, rfl, by simp, ?_, ?_⟩
    · intro c' hc
      rcases List.mem_append.mp hc with hc | hc
      · exact e2 c' hc
      · rw [List.mem_singleton.mp hc]; exact hw
    · rw [List.length_append, List.length_singleton]
      omega
end Tx
namespace Tx
open PySem PySem.Spec L2 Pl
/-! ### the deck -/
def C_deck : Con := fun os post => ∃ (cell : Int) (t n : Nat), os = [.sh (.int cell), .sh (.int t)] ∧ t + n ≤ 1000000000 ∧ ∀ d, Deck n d → post (.fl d) os
theorem h_deck : ∀ os post, C_deck os post → os.length = 2 ∧ r__law_deck (dEnds [] os post) (start0 N__law_deck.length os) := by
  rintro os post ⟨cell, t, n, rfl, ht, k⟩
  refine ⟨rfl, ?_⟩
  conv => whnf
  refine ⟨cpow (by omega) (by omega) (by omega) (by omega), ?_⟩
  conv => whnf
  split
  · rename_i h
    have h := of_decide_eq_true h
    conv => whnf
    refine ⟨cpow (by omega) (by omega) (by omega) (by omega), ?_⟩
    conv => whnf
    refine ⟨(by show (0 : Int) < 2147483579; decide), ?_⟩
    refine k _ ⟨_, _, _, rfl, ?_, Int.emod_nonneg _ (by decide), Int.lt_trans (Int.emod_lt_of_pos _ (by decide)) (by decide), by omega, by omega⟩
    exact Int.sub_nonneg.mpr h
  · conv => whnf
    refine ⟨(by show (0 : Int) < 2147483579; decide), ?_⟩
    exact k _ ⟨_, _, _, rfl, Int.le_refl _, Int.emod_nonneg _ (by decide), Int.lt_trans (Int.emod_lt_of_pos _ (by decide)) (by decide), by omega, by omega⟩
/-! ### lines of few shapes -/
def enL (ws : List Str) : D := .nl (ws.map .str)
theorem IsLn.le {n m : Nat} {z : Str} (h : IsLn n z) (k : n ≤ m) : IsLn m z := by
  obtain ⟨ws, e, h0, h1, h2⟩ := h
  exact ⟨ws, e, h0, by omega, h2⟩
theorem IsLn.split {n : Nat} {z : Str} (h : IsLn n z) : ∃ ws : List Str, Txt.split z " " = ws ∧ Txt.join " " ws = z ∧ ws ≠ [] ∧ ws.length ≤ n ∧ ∀ w ∈ ws, IsWd w := by
  obtain ⟨ws, rfl, h0, h1, h2⟩ := h
  exact ⟨ws, split_ln h0 fun w hw => wd_blank (h2 w hw), rfl, h0, h1, h2⟩
def C_lines : Con := fun os post => ∃ (n m : Nat) (d : List D), os = [.fl d, .sh (.int m)] ∧ Deck (n + (1000 + 30 * m)) d ∧ m ≤ 10000 ∧ ∀ (ls : List Str) d', ls.length ≤ m → (∀ z ∈ ls, IsLn 12 z) → Deck n d' → post (.fl (ls.map .str)) [.fl d', .sh (.int m)]
theorem pick_mem {l : List D} {i : Int} {P : D → Prop} (h : ∀ x ∈ l, P x) (h0 : 0 ≤ i) (h1 : i < l.length) : ∃ x, atI l i = some x ∧ P x := by
  cases e : atI l i with
  | none => exact absurd e (at_in h0 h1)
  | some x => exact ⟨x, rfl, h x (at_mem e)⟩
theorem lines1 {n m : Nat} {d : List D} (hd : Deck (n + 400) d) (D : PEnds) (h : ∀ (shapes : List (List Str)) d', shapes ≠ [] → shapes.length ≤ 3 → (∀ ws ∈ shapes, ws ≠ [] ∧ ws.length ≤ 12 ∧ ∀ w ∈ ws, IsWd w) → Deck n d' →
    D.nx [some (.fl d'), some (.sh (.int m)), some (.fl (shapes.map enL)), none, none, none, none]) : r__law_lines_1 C_pick C_word C_line D [some (.fl d), some (.sh (.int m)), none, none, none, none, none] := by
  conv => whnf
  refine ⟨n + 399, d, 3, rfl, hd.le (by omega), by omega, by omega, fun r d1 r0 r1 hd1 => ?_⟩
  conv => whnf
  refine ⟨by omega, ?_⟩
  conv => whnf
  refine ⟨by omega, ?_⟩
  conv => whnf
  refine ⟨by rw [rng_len]; have := sizeLine_eq; omega, ?_⟩
  refine lc_ind (fun ds ρ acc => ∃ d' ss, Deck (n + 100 * ds.length) d' ∧ ρ = [some (.fl d'), some (.sh (.int m)), none, none, none, none, none] ∧ acc = (ss : List (List Str)).map enL ∧ (∀ ws ∈ ss, ws ≠ [] ∧ ws.length ≤ 12 ∧ ∀ w ∈ ws, IsWd w) ∧ ss.length + ds.length = (1 + r).toNat) ?_ ?_ _ _ _ ⟨d1, [], hd1.le (by rw [rng_len]; omega), rfl, rfl, by simp, by rw [rng_len]; simp⟩
  · rintro ρ acc ⟨d', ss, e1, rfl, rfl, e2, e3⟩
    have e3 : ss.length = (1 + r).toNat := by simpa using e3
    refine h ss d' ?_ (by omega) e2 (e1.le (by omega))
    intro z
    rw [z] at e3
    simp at e3
    omega
  · rintro x ds ρ acc R ⟨d', ss, e1, rfl, rfl, e2, e3⟩ hR
    rw [List.length_cons] at e1 e3
    conv => whnf
    refine ⟨n + (100 * ds.length + 99), d', 3, rfl, e1.le (by omega), by omega, by omega, fun q d3 q0 q1 hd3 => ?_⟩
    conv => whnf
    obtain ⟨y, ey, k, rfl, k1, k2⟩ := pick_mem (l := [.int 3, .int 6, .int 12]) (P := fun x => ∃ k : Nat, x = .int k ∧ 1 ≤ k ∧ k ≤ 12) (by
      intro x hx
      simp at hx
      rcases hx with rfl | rfl | rfl
      · exact ⟨3, rfl, by omega, by omega⟩
      · exact ⟨6, rfl, by omega, by omega⟩
      · exact ⟨12, rfl, by omega, by omega⟩) q0 q1
    rw [ey]
    conv => whnf
    refine ⟨n + 100 * ds.length, k, d3, rfl, hd3.le (by omega), k1, by omega, fun z d4 hz hd4 => ?_⟩
    conv => whnf
    refine ⟨by decide, ?_⟩
    conv => whnf
    have hzl := hz.len
    refine ⟨by have := sizeLine_eq; omega, ?_⟩
    obtain ⟨ws, es, _, s0, s1, s2⟩ := hz.split
    refine hR _ _ ⟨d4, ss ++ [ws], hd4, rfl, ?_, ?_, ?_⟩
    · rw [List.map_append, ← es]; rfl
    · intro c hc
      rcases List.mem_append.mp hc with hc | hc
      · exact e2 c hc
      · rw [List.mem_singleton.mp hc]; exact ⟨s0, by omega, s2⟩
    · rw [List.length_append, List.length_singleton]
      omega
theorem wd_set {ws : List Str} {w : Str} (h : ∀ x ∈ ws, IsWd x) (hw : IsWd w) (j : Nat) : ∀ x ∈ ws.set j w, IsWd x := fun x hx => by
  rcases List.mem_or_eq_of_mem_set hx with hx | rfl
  · exact h x hx
  · exact hw
theorem ixN_in {n : Nat} {i : Int} (h0 : 0 ≤ i) (h1 : i < n) : ixN n i = some i.toNat := by
  unfold ixN
  rw [if_pos h0, if_pos h1]
/-- some words are put in the place of others -/
theorem lines3b {n : Nat} {d : List D} {a2 a3 a4 : Option O} {ws : List Str} (m : Nat) (hd : Deck (n + 20) d) (h0 : ws ≠ []) (h1 : ws.length ≤ 12) (hw : ∀ w ∈ ws, IsWd w) (D : PEnds) (h : ∀ (ws : List Str) d' a6, ws ≠ [] → ws.length ≤ 12 → (∀ w ∈ ws, IsWd w) → Deck n d' →
    D.nx [some (.fl d'), some (.sh (.int m)), a2, a3, a4, some (.fl (ws.map .str)), a6]) : ∀ a6, r__law_lines_3a_2 C_pick C_word C_line D [some (.fl d), some (.sh (.int m)), a2, a3, a4, some (.fl (ws.map .str)), a6] := by
  intro a6
  conv => whnf
  refine ⟨n + 18, d, 3, rfl, hd.le (by omega), by omega, by omega, fun r d1 r0 r1 hd1 => ?_⟩
  conv => whnf
  refine ⟨by omega, ?_⟩
  conv => whnf
  refine ⟨by omega, ?_⟩
  refine loop_ind (fun ds ρ => ∃ d' ws a6, Deck (n + 9 * ds.length) d' ∧ ρ = [some (.fl d'), some (.sh (.int m)), a2, a3, a4, some (.fl ((ws : List Str).map .str)), a6] ∧ ws ≠ [] ∧ ws.length ≤ 12 ∧ ∀ w ∈ ws, IsWd w) ?_ ?_ _ _ ⟨d1, ws, a6, hd1.le (by rw [rng_len]; omega), rfl, h0, h1, hw⟩
  · rintro ρ ⟨d', ws, a6, e1, rfl, e2, e3, e4⟩
    exact h ws d' a6 e2 e3 e4 (e1.le (by omega))
  · rintro x ds ρ R ⟨d', ws, a6, e1, rfl, e2, e3, e4⟩ hR
    rw [List.length_cons] at e1
    conv => whnf
    refine ⟨n + (9 * ds.length + 1), d', rfl, e1.le (by omega), fun w d2 hw hd2 => ?_⟩
    conv => whnf
    have hl : 0 < ws.length := List.length_pos_iff.mpr e2
    refine ⟨n + 9 * ds.length, d2, ws.length, ?_, hd2.le (by omega), by omega, by omega, fun q d3 q0 q1 hd3 => ?_⟩
    · show [O.fl d2, O.sh (.int ((ws.map Pl.D.str).length : Nat))] = _
      rw [List.length_map]
    conv => whnf
    rw [ixN_in q0 (by rw [List.length_map]; exact q1)]
    refine hR _ ⟨d3, ws.set q.toNat w, some (.sh x), hd3, ?_, ?_, ?_, ?_⟩
    · show [some (O.fl d3), some (O.sh (.int m)), a2, a3, a4, some (O.fl ((ws.map Pl.D.str).set q.toNat (.str w))), some (O.sh x)] = _
      rw [List.map_set]
    · intro z
      have := congrArg List.length z
      rw [List.length_set, List.length_nil] at this
      omega
    · rw [List.length_set]; exact e3
    · exact wd_set e4 hw _
theorem cut_take (xs : List D) (k : Nat) : cutD xs none (some (k : Int)) = xs.take k := by
  unfold cutD
  rw [HT.sIx_none, HT.sIx_nat, List.drop_zero, Nat.sub_zero]
  by_cases h : k ≤ xs.length
  · rw [Nat.min_eq_left h]
  · rw [Nat.min_eq_right (by omega), List.take_of_length_le (Nat.le_refl _), List.take_of_length_le (by omega)]
theorem mem_take {α : Type} {l : List α} {k : Nat} {x : α} (h : x ∈ l.take k) : x ∈ l := List.mem_of_mem_take h
theorem h_lines : ∀ os post, C_lines os post → os.length = 2 ∧ r__law_lines C_pick C_word C_line (dEnds [0] os post) (start0 N__law_lines.length os) := by
  rintro os post ⟨n, m, d, rfl, hd, hm, k⟩
  refine ⟨rfl, ?_⟩
  refine lines1 (n := n + (400 + 23 * m)) (m := m) (hd.le (by omega)) _ fun shapes d1 s0 s1 s2 hd1 => ?_
  conv => whnf
  refine ⟨n + (399 + 23 * m), d1, m + 1, rfl, hd1.le (by omega), by omega, by omega, fun r d2 r0 r1 hd2 => ?_⟩
  conv => whnf
  refine ⟨by omega, ?_⟩
  conv => whnf
  refine ⟨by omega, ?_⟩
  refine loop_ind (fun ds ρ => ∃ d' ls a4 a5 a6, Deck (n + 23 * ds.length) d' ∧ ρ = [some (.fl d'), some (.sh (.int m)), some (.fl (shapes.map enL)), some (.fl ((ls : List Str).map .str)), a4, a5, a6] ∧ (∀ z ∈ ls, IsLn 12 z) ∧ ls.length + 2 * ds.length ≤ 100000) ?_ ?_ _ _ ⟨d2, [], none, none, none, hd2.le (by rw [rng_len]; omega), rfl, by simp, by rw [rng_len, List.length_nil]; omega⟩
  · rintro ρ ⟨d', ls, a4, a5, a6, e1, rfl, e2, e3⟩
    conv => whnf
    rw [cut_take]
    rw [← List.map_take]
    exact k (ls.take m) d' (List.length_take_le _ _) (fun z hz => e2 z (mem_take hz)) (e1.le (by omega))
  · rintro x ds ρ R ⟨d', ls, a4, a5, a6, e1, rfl, e2, e3⟩ hR
    rw [List.length_cons] at e1 e3
    conv => whnf
    have hsl : 0 < shapes.length := List.length_pos_iff.mpr s0
    refine ⟨n + (23 * ds.length + 22), d', shapes.length, ?_, e1.le (by omega), by omega, by omega, fun q d3 q0 q1 hd3 => ?_⟩
    · show [O.fl d', O.sh (.int ((shapes.map enL).length : Nat))] = _
      rw [List.length_map]
    conv => whnf
    obtain ⟨y, ey, ws, rfl, w0, w1, w2⟩ := pick_mem (l := shapes.map enL) (i := q) (P := fun x => ∃ ws : List Str, x = enL ws ∧ ws ≠ [] ∧ ws.length ≤ 12 ∧ ∀ w ∈ ws, IsWd w) (by
      intro x hx
      obtain ⟨ws, hws, rfl⟩ := List.mem_map.mp hx
      exact ⟨ws, rfl, s2 ws hws⟩) q0 (by rw [List.length_map]; exact q1)
    rw [ey]
    refine lines3b (n := n + (23 * ds.length + 2)) (a4 := some (.sh x)) m (hd3.le (by omega)) w0 w1 w2 _ (fun ws d4 a6' w0 w1 w2 hd4 => ?_) a6
    conv => whnf
    rw [strsOf_map]
    conv => whnf
    have h2 := sum_le 1000 ws fun w hw => (w2 w hw).2.1
    refine ⟨by show _ + ws.length * 1 ≤ 16777216; omega, ?_⟩
    conv => whnf
    refine ⟨by rw [List.length_map]; have := sizeLine_eq; omega, ?_⟩
    conv => whnf
    refine ⟨n + (23 * ds.length + 1), d4, 6, rfl, hd4.le (by omega), by omega, by omega, fun q d5 q0 q1 hd5 => ?_⟩
    conv => whnf
    refine ⟨dR (show (er (vw (.int 0))).depth ≤ 64 from d_int 0), ?_⟩
    conv => whnf
    have hln : ∀ z ∈ ls ++ [Txt.join " " ws], IsLn 12 z := fun z hz => by
      rcases List.mem_append.mp hz with hz | hz
      · exact e2 z hz
      · rw [List.mem_singleton.mp hz]; exact ⟨ws, rfl, w0, w1, w2⟩
    rw [er_vw, er_vw, eqv_int]
    split
    · conv => whnf
      refine ⟨n + 23 * ds.length, d5, ls.length + 1, ?_, hd5.le (by omega), by omega, by omega, fun p d6 p0 p1 hd6 => ?_⟩
      · show [O.fl d5, O.sh (.int ((ls.map Pl.D.str ++ [Pl.D.str (Txt.join " " ws)]).length : Nat))] = _
        rw [List.length_append, List.length_map]; rfl
      conv => whnf
      obtain ⟨y, ey, z, rfl, hz⟩ := pick_mem (l := ls.map Pl.D.str ++ [Pl.D.str (Txt.join " " ws)]) (i := p) (P := fun x => ∃ z : Str, x = .str z ∧ IsLn 12 z) (by
        intro x hx
        rcases List.mem_append.mp hx with hx | hx
        · obtain ⟨z, hz, rfl⟩ := List.mem_map.mp hx
          exact ⟨z, rfl, e2 z hz⟩
        · rw [List.mem_singleton.mp hx]
          exact ⟨_, rfl, ws, rfl, w0, w1, w2⟩) p0 (by rw [List.length_append, List.length_map, List.length_singleton]; omega)
      rw [ey]
      conv => whnf
      refine ⟨by rw [List.length_append, List.length_map, List.length_singleton]; have := sizeLine_eq; omega, ?_⟩
      refine hR _ ⟨d6, ls ++ [Txt.join " " ws] ++ [z], some (.sh x), some (.fl (ws.map .str)), a6', hd6, ?_, ?_, ?_⟩
      · rw [List.map_append, List.map_append]; rfl
      · intro y hy
        rcases List.mem_append.mp hy with hy | hy
        · exact hln y hy
        · rw [List.mem_singleton.mp hy]; exact hz
      · rw [List.length_append, List.length_append, List.length_singleton, List.length_singleton]; omega
    · refine hR _ ⟨d5, ls ++ [Txt.join " " ws], some (.sh x), some (.fl (ws.map .str)), a6', hd5.le (by omega), ?_, hln, ?_⟩
      · rw [List.map_append]; rfl
      · rw [List.length_append, List.length_singleton]; omega
end Tx
/-! patterns, their order -/
namespace Pl
open PySem PySem.Spec L2
/-! ### sorting by data -/
open PySem.W in
theorem lt_irr (d : PyData) : dataLt d d = false := dataLt_self d
open PySem.W in
theorem le_total {β : Type} (k : β → PyData) : TotalLe (dataLe false k) := sortLe_total _ _ _
/-- two lists of the same things that are both in order are one -/
theorem one_order {β : Type} {le : β → β → Bool} {l m : List β} (ha : ∀ a b, a ∈ l → b ∈ m → le a b = true → le b a = true → a = b) (hl : l.Pairwise fun a b => le a b = true) (hm : m.Pairwise fun a b => le a b = true) (hp : l.Perm m) : l = m :=
  List.Perm.eq_of_pairwise (le := fun a b => le a b = true) ha hl hm hp
open PySem.W PyProof.Rows in
/-- data that are alike and of like rank are equal -/
theorem rank_eqv {x y : PyData} (h : alike x y = true) (h1 : dataLt x y = false) (h2 : dataLt y x = false) : PyData.eqv x y = true := by
  have e : keyToks x = keyToks y := lex_total _ _ h1 h2
  cases q : PyData.eqv x y with
  | true => rfl
  | false =>
    have z := (toks_eqv x y h).2 q [] [Sum.inl 0]
    rw [← e] at z
    rw [List.append_nil, lex_irrefl] at z
    have : lexLt itemOrd (keyToks x ++ []) (keyToks x ++ [Sum.inl 0]) = true := by rw [lex_pre]; rfl
    rw [List.append_nil] at this
    rw [this] at z; cases z
end Pl
namespace Tx
open PySem PySem.Spec L2 Pl
inductive Hk where | number | name | any
  deriving DecidableEq
def Hk.str : Hk → Str
  | .number => "number"
  | .name => "name"
  | .any => "any"
def Hk.ix : Hk → Int
  | .number => 0
  | .name => 1
  | .any => 2
inductive Pt where | w (s : Str) | h (k : Hk)
  deriving DecidableEq
def enP : Pt → D
  | .w s => .tuple [.str "word", .str s]
  | .h k => .tuple [.str "hole", .str k.str]
abbrev Pat := List Pt
def enPat (p : Pat) : D := .list (p.map enP)
def nwPat (p : Pat) : D := .nl (p.map enP)
def OkPt : Pt → Prop
  | .w s => IsWd s
  | .h _ => True
/-! places, as the two texts have them -/
abbrev K1 := Int × (Int × Str)
abbrev K2 := PySem.W.T3 Int Int Str
def k1 : Pt → K1
  | .w s => (0, (s.length, s))
  | .h k => (1, (k.ix, ""))
def k2 : Pt → K2
  | .w s => ⟨0, s.length, s⟩
  | .h k => ⟨k.ix + 1, 0, ""⟩
theorem ix_inj {a b : Hk} (h : a.ix = b.ix) : a = b := by cases a <;> cases b <;> first | rfl | (simp [Hk.ix] at h)
theorem k1_inj {p q : Pt} (h : k1 p = k1 q) : p = q := by
  cases p <;> cases q <;> simp [k1] at h
  · rw [h.2]
  · rw [ix_inj h]
theorem k2_inj {p q : Pt} (h : k2 p = k2 q) : p = q := by
  cases p <;> cases q <;> simp [k2] at h
  · rw [h.2]
  · rename_i s k; exfalso; cases k <;> simp [Hk.ix] at h
  · rename_i k s; exfalso; cases k <;> simp [Hk.ix] at h
  · rw [ix_inj h]
open PySem.W in
theorem k_lt (p q : Pt) : DatumOrd.lt (k1 p) (k1 q) = DatumOrd.lt (k2 p) (k2 q) := by
  cases p with
  | w s =>
    cases q with
    | w t => rfl
    | h k => cases k <;> rfl
  | h k =>
    cases q with
    | w t => cases k <;> rfl
    | h j => cases k <;> cases j <;> rfl
open PySem.W in
theorem listLt_maps {γ α β : Type} [DecidableEq α] [DatumOrd α] [DecidableEq β] [DatumOrd β] {f : γ → α} {g : γ → β} (hi : ∀ x y, f x = f y ↔ g x = g y) (hl : ∀ x y, DatumOrd.lt (f x) (f y) = DatumOrd.lt (g x) (g y)) : ∀ xs ys : List γ, listLt (xs.map f) (ys.map f) = listLt (xs.map g) (ys.map g)
  | [], [] => rfl
  | [], _ :: _ => rfl
  | _ :: _, [] => rfl
  | x :: xs, y :: ys => by
    rw [List.map_cons, List.map_cons, List.map_cons, List.map_cons, listLt, listLt, listLt_maps hi hl xs ys, hl]
    by_cases h : f x = f y
    · rw [if_pos h, if_pos ((hi x y).mp h)]
    · rw [if_neg h, if_neg fun z => h ((hi x y).mpr z)]
theorem map_inj {α β : Type} {f : α → β} (h : ∀ x y, f x = f y → x = y) : ∀ {xs ys : List α}, xs.map f = ys.map f → xs = ys
  | [], [], _ => rfl
  | [], _ :: _, e => by cases e
  | _ :: _, [], e => by cases e
  | x :: xs, y :: ys, e => by
    rw [List.map_cons, List.map_cons, List.cons.injEq] at e
    rw [h _ _ e.1, map_inj h e.2]
def f1 (p : Pat) : Int × List K1 := (p.length, p.map k1)
def f2 (p : Pat) : Int × List K2 := (p.length, p.map k2)
theorem f1_inj {p q : Pat} (h : f1 p = f1 q) : p = q := map_inj (fun _ _ => k1_inj) (congrArg Prod.snd h)
theorem f2_inj {p q : Pat} (h : f2 p = f2 q) : p = q := map_inj (fun _ _ => k2_inj) (congrArg Prod.snd h)
open PySem.W in
theorem f_lt (p q : Pat) : DatumOrd.lt (f2 p) (f2 q) = DatumOrd.lt (f1 p) (f1 q) := by
  show (if (p.length : Int) = q.length then listLt (p.map k2) (q.map k2) else decide ((p.length : Int) < q.length)) = if (p.length : Int) = q.length then listLt (p.map k1) (q.map k1) else decide ((p.length : Int) < q.length)
  rw [listLt_maps (f := k2) (g := k1) (fun x y => ⟨fun h => by rw [k2_inj h], fun h => by rw [k1_inj h]⟩) fun x y => (k_lt x y).symm]
/-! the order -/
open PySem.W in
def plt (p q : Pat) : Bool := DatumOrd.lt (f1 p) (f1 q)
def ple (p q : Pat) : Bool := !plt q p
def inOrder (ps : List Pat) : List Pat := ps.mergeSort ple
open PySem.W in
theorem lt_self {α : Type} [DecidableEq α] [DatumOrd α] (x : α) : DatumOrd.lt x x = false := by rw [← DatumOrd.lt_eq]; exact dataLt_self _
theorem plt_self (p : Pat) : plt p p = false := lt_self _
open PySem.W in
theorem ple_eq : ple = dataLe false (fun p => Datum.toD (f1 p)) := by
  funext p q
  show (!plt q p) = !dataLt _ _
  rw [DatumOrd.lt_eq]; rfl
theorem ple_total : PySem.W.TotalLe ple := by rw [ple_eq]; exact le_total _
open PySem.W in
theorem ple_anti {p q : Pat} (h1 : ple p q = true) (h2 : ple q p = true) : p = q := by
  have a1 : plt q p = false := by simpa [ple] using h1
  have a2 : plt p q = false := by simpa [ple] using h2
  have z := rank_eqv (x := Datum.toD (f1 p)) (y := Datum.toD (f1 q)) (DatumOrd.alike _ _) (by rw [DatumOrd.lt_eq]; exact a2) (by rw [DatumOrd.lt_eq]; exact a1)
  rw [Datum.eqv] at z
  exact f1_inj (of_decide_eq_true z)
theorem inOrder_sorted (ps : List Pat) : (inOrder ps).Pairwise fun a b => ple a b = true := PySem.W.sort_pairwise ple_total ps
theorem inOrder_perm (ps : List Pat) : (inOrder ps).Perm ps := List.mergeSort_perm ps ple
theorem inOrder_one {l ps : List Pat} (h : l.Pairwise fun a b => ple a b = true) (hp : l.Perm ps) : l = inOrder ps :=
  one_order (fun _ _ _ _ => ple_anti) h (inOrder_sorted ps) (hp.trans (inOrder_perm ps).symm)
theorem inOrder_of_perm {ps qs : List Pat} (h : ps.Perm qs) : inOrder ps = inOrder qs := inOrder_one (inOrder_sorted ps) ((inOrder_perm ps).trans h)
/-! what the program sorts -/
def plP : Pt → D
  | .w s => .tuple [.int 0, .tuple [.int s.length, .str s]]
  | .h k => .tuple [.int 1, .tuple [.int k.ix, .str ""]]
def plD (p : Pat) : D := .tuple [.int p.length, .nl (p.map plP)]
def it1 (p : Pat) : D := .tuple [plD p, nwPat p]
def ec (p : Pt) : Str × Str := match p with
  | .w s => ("word", s)
  | .h k => ("hole", k.str)
theorem er_P (p : Pt) : er (enP p) = PySem.W.Datum.toD (ec p) := by cases p <;> rfl
theorem er_pl (p : Pt) : er (plP p) = PySem.W.Datum.toD (k1 p) := by cases p <;> rfl
theorem er_map {α β : Type} [DecidableEq β] [PySem.W.Datum β] {f : α → D} {g : α → β} (h : ∀ x, er (f x) = PySem.W.Datum.toD (g x)) (xs : List α) : er (.nl (xs.map f)) = PySem.W.Datum.toD (xs.map g) := by
  show PyData.list (erAll (xs.map f)) = PyData.list ((xs.map g).map PySem.W.Datum.toD)
  rw [erAll_map, List.map_map, List.map_map]
  congr 1
  exact List.map_congr_left fun x _ => h x
def d1 (p : Pat) : (Int × List K1) × List (Str × Str) := (f1 p, p.map ec)
theorem er_it1 (p : Pat) : er (it1 p) = PySem.W.Datum.toD (d1 p) := by
  show PyData.tuple [.tuple [.int p.length, er (.nl (p.map plP))], er (.nl (p.map enP))] = _
  rw [er_map er_pl, er_map er_P]; rfl
theorem er_it1s (ps : List Pat) : (ps.map it1).map er = (ps.map d1).map PySem.W.Datum.toD := by
  rw [List.map_map, List.map_map]
  exact List.map_congr_left fun p _ => er_it1 p
open PySem.W in
theorem sort1 (ps : List Pat) : (ps.map it1).mergeSort (dataLe false er) = (inOrder ps).map it1 := by
  refine (sort_maps it1 fun p _ q _ => ?_).symm
  show (!plt q p) = !dataLt (er (it1 q)) (er (it1 p))
  rw [er_it1, er_it1, DatumOrd.lt_eq]
  show _ = !(if f1 q = f1 p then DatumOrd.lt (q.map ec) (p.map ec) else DatumOrd.lt (f1 q) (f1 p))
  by_cases h : f1 q = f1 p
  · rw [if_pos h, f1_inj h, lt_self, plt_self]
  · rw [if_neg h]; rfl
open PySem.W in
theorem sort1_ok (ps : List Pat) : AllAlike ((ps.map it1).map er) ∧ Sortable ((ps.map it1).map er) ∧ PyData.depthAll ((ps.map it1).map er) ≤ 64 := by
  rw [er_it1s]
  exact ⟨AllAlike.of fun _ _ => DatumOrd.alike _ _, Sortable.tuples fun p => ⟨_, _, rfl⟩, Nat.le_trans (depthAll_map _) (by decide)⟩
/-! what the law sorts -/
def plP' : Pt → D
  | .w s => .tuple [.int 0, .int s.length, .str s]
  | .h k => .tuple [.int (k.ix + 1), .int 0, .str ""]
def plD' (p : Pat) : D := .tuple [.int p.length, .nl (p.map plP')]
def it2 (p : Pat × Nat) : D := .tuple [plD' p.1, .int (p.2 : Nat)]
theorem er_pl' (p : Pt) : er (plP' p) = PySem.W.Datum.toD (k2 p) := by cases p <;> rfl
def d2 (p : Pat × Nat) : (Int × List K2) × Int := (f2 p.1, (p.2 : Nat))
theorem er_it2 (p : Pat × Nat) : er (it2 p) = PySem.W.Datum.toD (d2 p) := by
  show PyData.tuple [.tuple [.int p.1.length, er (.nl (p.1.map plP'))], .int (p.2 : Nat)] = _
  rw [er_map er_pl']; rfl
theorem er_it2s (ps : List (Pat × Nat)) : (ps.map it2).map er = (ps.map d2).map PySem.W.Datum.toD := by
  rw [List.map_map, List.map_map]
  exact List.map_congr_left fun p _ => er_it2 p
open PySem.W in
theorem sort2_ok (ps : List (Pat × Nat)) : AllAlike ((ps.map it2).map er) ∧ Sortable ((ps.map it2).map er) ∧ PyData.depthAll ((ps.map it2).map er) ≤ 64 := by
  rw [er_it2s]
  exact ⟨AllAlike.of fun _ _ => DatumOrd.alike _ _, Sortable.tuples fun p => ⟨_, _, rfl⟩, Nat.le_trans (depthAll_map _) (by decide)⟩
open PySem.W in
theorem sort2 (ps : List (Pat × Nat)) : ∃ L : List (Pat × Nat), (ps.map it2).mergeSort (dataLe false er) = L.map it2 ∧ L.Perm ps ∧ L.map Prod.fst = inOrder (ps.map Prod.fst) := by
  refine ⟨ps.mergeSort fun p q => dataLe false er (it2 p) (it2 q), (sort_maps it2 fun _ _ _ _ => rfl).symm, List.mergeSort_perm _ _, inOrder_one ?_ ((List.mergeSort_perm _ _).map _)⟩
  rw [List.pairwise_map]
  refine (sort_pairwise (le_total fun p => er (it2 p)) ps).imp fun {p q} h => ?_
  have h' : (!dataLt (er (it2 q)) (er (it2 p))) = true := h
  rw [er_it2, er_it2, DatumOrd.lt_eq] at h'
  have h' : (!(if f2 q.1 = f2 p.1 then DatumOrd.lt ((q.2 : Nat) : Int) ((p.2 : Nat) : Int) else DatumOrd.lt (f2 q.1) (f2 p.1))) = true := h'
  show (!plt q.1 p.1) = true
  by_cases e : f2 q.1 = f2 p.1
  · rw [f2_inj e, plt_self]; rfl
  · rw [if_neg e, f_lt] at h'; exact h'
end Tx
namespace Pl
open PySem PySem.Spec L2
/-- a comprehension over things that stand for xs: a filter and a map -/
theorem lc_mt {α : Type} {g : TPg} {tt : TPt} {te : TPe} {vs : List Nat} {Q : O → Ev → Prop} (ve : D → D) (e : α → D) (f : α → Option D) (P : α → Prop) (ρ : Ev)
    (hs : ∀ d x, ve d = e x → P x → ∀ (R : Ev → List D → Prop) acc, R ρ (acc ++ (f x).toList) → g d (wipeE ρ vs) fun ρ1 => tt ρ1 fun b ρ2 => match b with
      | true => te ρ2 fun y ρ3 => R (back ρ ρ3 vs) (acc ++ [y])
      | false => R (back ρ ρ2 vs) acc) : ∀ (ds : List D) (xs : List α) (acc : List D), ds.map ve = xs.map e → (∀ x ∈ xs, P x) → Q (.fl (acc ++ xs.filterMap f)) ρ → lcR g tt te vs Q ds ρ acc
  | [], [], acc, _, _, q => by rw [List.filterMap_nil, List.append_nil] at q; exact q
  | [], _ :: _, _, h, _, _ => by cases h
  | _ :: _, [], _, h, _, _ => by cases h
  | d :: ds, x :: xs, acc, h, hp, q => by
    rw [List.map_cons, List.map_cons, List.cons.injEq] at h
    refine hs d x h.1 (hp x (List.mem_cons_self ..)) (lcR g tt te vs Q ds) acc (lc_mt ve e f P ρ hs ds xs _ h.2 (fun y hy => hp y (List.mem_cons_of_mem _ hy)) ?_)
    rw [List.append_assoc]
    have e : (f x).toList ++ xs.filterMap f = (x :: xs).filterMap f := by
      rw [List.filterMap_cons]
      cases f x <;> rfl
    rw [e]; exact q
theorem fm_some {α β : Type} (f : α → β) (xs : List α) : xs.filterMap (fun x => some (f x)) = xs.map f := by
  induction xs with
  | nil => rfl
  | cons x r ih => rw [List.filterMap_cons, List.map_cons, ih]
theorem len_of_map {α β γ : Type} {f : α → γ} {g : β → γ} {xs : List α} {ys : List β} (h : xs.map f = ys.map g) : xs.length = ys.length := by
  have := congrArg List.length h
  rw [List.length_map, List.length_map] at this
  exact this
end Pl
namespace Tx
open PySem PySem.Spec L2 Pl
def C_wplace : Con := fun os post => ∃ s : Str, os = [.sh (.str s)] ∧ s.length ≤ sizeLine ∧ post (.sh (.tuple [.int s.length, .str s])) os
theorem h_wplace : ∀ os post, C_wplace os post → os.length = 1 ∧ r_word_place (dEnds [] os post) (start0 N_word_place.length os) := by
  rintro os post ⟨s, rfl, hl, k⟩
  refine ⟨rfl, ?_⟩
  conv => whnf
  exact ⟨hl, k⟩
def OkPat (p : Pat) : Prop := p.length ≤ 1000 ∧ ∀ x ∈ p, OkPt x
def C_place : Con := fun os post => ∃ p : Pat, os = [.sh (enPat p)] ∧ OkPat p ∧ post (.sh (plD p)) os
theorem small {n : Nat} (h : n ≤ 1000000) : n < sizeLine := by have := sizeLine_eq; omega
theorem word_hole : ("hole" : Str) = "word" ↔ False := by decide
theorem h_place : ∀ os post, C_place os post → os.length = 1 ∧ r_pattern_place C_wplace (dEnds [] os post) (start0 N_pattern_place.length os) := by
  rintro os post ⟨p, rfl, ⟨hl, hp⟩, k⟩
  refine ⟨rfl, ?_⟩
  conv => whnf
  refine loop_ind (fun ds ρ => ∃ done rest a2, p = done ++ rest ∧ ds = rest.map enP ∧ ρ = [some (.sh (enPat p)), some (.fl ((done : Pat).map plP)), a2]) ?_ ?_ _ _ ⟨[], p, none, rfl, rfl, rfl⟩
  · rintro ρ ⟨done, rest, a2, e1, e2, rfl⟩
    have e : rest = [] := List.map_eq_nil_iff.mp e2.symm
    subst e
    rw [List.append_nil] at e1
    subst e1
    have z : plD p = .tuple [.int ((p.map enP).length : Nat), .nl (p.map plP)] := by rw [List.length_map]; rfl
    rw [z] at k
    exact k
  · rintro d ds ρ R ⟨done, rest, a2, e1, e2, rfl⟩ hR
    cases rest with
    | nil => cases e2
    | cons x rest =>
      rw [List.map_cons, List.cons.injEq] at e2
      obtain ⟨rfl, rfl⟩ := e2
      have hx : OkPt x := hp x (by rw [e1]; simp)
      have hlen : done.length < 1000000 := by have := congrArg List.length e1; rw [List.length_append, List.length_cons] at this; omega
      have fin : R [some (.sh (enPat p)), some (.fl ((done.map plP) ++ [plP x])), some (.sh (enP x))] := hR _ ⟨done ++ [x], rest, _, by rw [e1, List.append_assoc]; rfl, rfl, by rw [List.map_append]; rfl⟩
      cases x with
      | w s =>
        conv => whnf
        refine ⟨dR (d_str _), ?_⟩
        conv => whnf
        refine ⟨s, rfl, Nat.le_trans hx.2.1 (Nat.le_of_lt (small (by omega))), ?_⟩
        conv => whnf
        refine ⟨?_, fin⟩
        rw [List.length_map]; exact small (by omega)
      | h j =>
        conv => whnf
        refine ⟨dR (d_str _), ?_⟩
        conv => whnf
        cases j
        all_goals
          conv => whnf
          refine ⟨?_, fin⟩
          rw [List.length_map]; exact small (by omega)
def pats (ds : List D) (ps : List Pat) : Prop := ds.map vw = ps.map enPat
def C_ordered : Con := fun os post => ∃ (ds : List D) (ps : List Pat), os = [.sh (.list ds)] ∧ pats ds ps ∧ (∀ p ∈ ps, OkPat p) ∧ ps.length ≤ 100000 ∧ post (.fl ((inOrder ps).map nwPat)) os
theorem h_ordered : ∀ os post, C_ordered os post → os.length = 1 ∧ r_ordered C_place (dEnds [] os post) (start0 N_ordered.length os) := by
  rintro os post ⟨ds, ps, rfl, hd, hp, hl, k⟩
  refine ⟨rfl, ?_⟩
  conv => whnf
  refine ⟨by rw [len_of_map hd]; exact Nat.le_of_lt (small (by omega)), ?_⟩
  refine lc_mt vw enPat (fun p => some (it1 p)) OkPat [some (.sh (.list ds)), none, none, none] ?_ _ _ _ hd hp ?_
  · intro d p hdp hp R acc hR
    conv => whnf
    refine ⟨p, by rw [hdp]; rfl, hp, ?_⟩
    conv => whnf
    rw [hdp]
    exact hR
  · rw [fm_some]
    conv => whnf
    obtain ⟨z1, z2, z3⟩ := sort1_ok ps
    refine ⟨z1, z2, z3, ?_⟩
    conv => whnf
    rw [List.nil_append, sort1]
    refine ⟨by rw [List.length_map, (inOrder_perm ps).length_eq]; exact Nat.le_of_lt (small (by omega)), ?_⟩
    refine lc_mt id it1 (fun p => some (nwPat p)) (fun _ => True) [some (.sh (.list ds)), some (.sh (.nl ((inOrder ps).map it1))), none, none] ?_ _ (inOrder ps) _ (by rw [List.map_id]) (fun _ _ => trivial) ?_
    · intro d p hdp _ R acc hR
      have hdp : d = it1 p := hdp
      subst hdp
      exact hR
    · rw [fm_some]
      exact k
/-! the law's own -/
def C_lplace : Con := fun os post => ∃ p : Pat, os = [.sh (enPat p)] ∧ OkPat p ∧ post (.sh (plD' p)) os
theorem cut_drop (xs : List D) (k : Nat) : cutD xs (some (k : Int)) none = xs.drop k := by
  unfold cutD
  rw [HT.sIx_none, HT.sIx_nat]
  by_cases h : k ≤ xs.length
  · rw [Nat.min_eq_left h, List.take_of_length_le (by rw [List.length_drop]; omega)]
  · rw [Nat.min_eq_right (by omega), List.drop_of_length_le (Nat.le_refl _), List.drop_of_length_le (by omega), List.take_nil]
theorem at_head {α : Type} (x : α) (l : List α) : atI (x :: l) 0 = some x := by
  unfold atI ixN
  rw [if_pos (by decide), if_pos (by rw [List.length_cons]; omega)]; rfl
theorem h_lplace : ∀ os post, C_lplace os post → os.length = 1 ∧ r__law_place (dEnds [] os post) (start0 N__law_place.length os) := by
  rintro os post ⟨p, rfl, ⟨hl, hp⟩, k⟩
  refine ⟨rfl, ?_⟩
  conv => whnf
  refine loop_ind (fun ds ρ => ∃ done rest a3, p = done ++ rest ∧ ds = rest.map enP ∧ ρ = [some (.sh (enPat p)), some (.fd [.inr "number", .inr "name", .inr "any"] [.int 1, .int 2, .int 3]), some (.fl (.int p.length :: (done : Pat).map plP')), a3]) ?_ ?_ _ _ ⟨[], p, none, rfl, rfl, ?_⟩
  · rintro ρ ⟨done, rest, a2, e1, e2, rfl⟩
    have e : rest = [] := List.map_eq_nil_iff.mp e2.symm
    subst e
    rw [List.append_nil] at e1
    subst e1
    conv => whnf
    have z : cutD (.int p.length :: p.map plP') (some 1) none = p.map plP' := cut_drop _ 1
    rw [at_head]
    show post (.sh (.tuple [.int p.length, .nl (cutD (.int p.length :: p.map plP') (some 1) none)])) _
    rw [z]
    exact k
  · rintro d ds ρ R ⟨done, rest, a2, e1, e2, rfl⟩ hR
    cases rest with
    | nil => cases e2
    | cons x rest =>
      rw [List.map_cons, List.cons.injEq] at e2
      obtain ⟨rfl, rfl⟩ := e2
      have hx : OkPt x := hp x (by rw [e1]; simp)
      have hlen : done.length < 1000000 := by have := congrArg List.length e1; rw [List.length_append, List.length_cons] at this; omega
      have fin := hR [some (.sh (enPat p)), some (.fd [.inr "number", .inr "name", .inr "any"] [.int 1, .int 2, .int 3]), some (.fl ((.int p.length :: done.map plP') ++ [plP' x])), some (.sh (enP x))] ⟨done ++ [x], rest, _, by rw [e1, List.append_assoc]; rfl, rfl, by rw [List.map_append]; rfl⟩
      cases x with
      | w s =>
        conv => whnf
        refine ⟨dR (d_str _), ?_⟩
        conv => whnf
        refine ⟨Nat.le_trans hx.2.1 (Nat.le_of_lt (small (by omega))), ?_⟩
        conv => whnf
        refine ⟨?_, fin⟩
        rw [List.length_cons, List.length_map]; exact small (by omega)
      | h j =>
        conv => whnf
        refine ⟨dR (d_str _), ?_⟩
        conv => whnf
        cases j
        all_goals
          conv => whnf
          refine ⟨?_, fin⟩
          rw [List.length_cons, List.length_map]; exact small (by omega)
  · show [some (O.sh (enPat p)), _, some (.fl [.int ((p.map enP).length : Nat)]), none] = _
    rw [List.length_map]; rfl
end Tx
namespace Pl
open PySem PySem.Spec L2
theorem enumD_zip {α : Type} (e : α → D) : ∀ (xs : List α) (ds : List D) (n : Nat), ds.map vw = xs.map e → ∀ {P : D → α × Nat → Prop}, (∀ d x i, vw d = e x → P (.tuple [.int (i : Nat), d]) (x, i)) → (enumD n ds).length = (xs.zipIdx n).length ∧ ∀ (j : Nat) d p, (enumD n ds)[j]? = some d → (xs.zipIdx n)[j]? = some p → P d p
  | [], [], n, h, P, hP => ⟨rfl, fun j d p e => by simp [enumD] at e⟩
  | [], _ :: _, n, h, P, hP => by cases h
  | _ :: _, [], n, h, P, hP => by cases h
  | x :: xs, d :: ds, n, h, P, hP => by
    rw [List.map_cons, List.map_cons, List.cons.injEq] at h
    obtain ⟨l, r⟩ := enumD_zip e xs ds (n + 1) h.2 hP
    refine ⟨?_, fun j d' p e1 e2 => ?_⟩
    · rw [List.zipIdx_cons, List.length_cons, ← l]; rfl
    · rw [List.zipIdx_cons] at e2
      cases j with
      | zero =>
        have e1 : some (D.tuple [.int (n : Nat), d]) = some d' := e1
        have e2 : some (x, n) = some p := e2
        cases e1; cases e2
        exact hP d x n h.1
      | succ j => exact r j d' p e1 e2
/-- a comprehension by a relation of the things and of xs -/
theorem lc_rel {α : Type} {g : TPg} {tt : TPt} {te : TPe} {vs : List Nat} {Q : O → Ev → Prop} (P : D → α → Prop) (f : α → Option D) (ρ : Ev)
    (hs : ∀ d x, P d x → ∀ (R : Ev → List D → Prop) acc, R ρ (acc ++ (f x).toList) → g d (wipeE ρ vs) fun ρ1 => tt ρ1 fun b ρ2 => match b with
      | true => te ρ2 fun y ρ3 => R (back ρ ρ3 vs) (acc ++ [y])
      | false => R (back ρ ρ2 vs) acc) : ∀ (ds : List D) (xs : List α) (acc : List D), ds.length = xs.length → (∀ (j : Nat) d x, ds[j]? = some d → xs[j]? = some x → P d x) → Q (.fl (acc ++ xs.filterMap f)) ρ → lcR g tt te vs Q ds ρ acc
  | [], [], acc, _, _, q => by rw [List.filterMap_nil, List.append_nil] at q; exact q
  | [], _ :: _, _, h, _, _ => by cases h
  | _ :: _, [], _, h, _, _ => by cases h
  | d :: ds, x :: xs, acc, h, hp, q => by
    refine hs d x (hp 0 d x rfl rfl) (lcR g tt te vs Q ds) acc (lc_rel P f ρ hs ds xs _ (by simpa using h) (fun j d' x' e1 e2 => hp (j + 1) d' x' e1 e2) ?_)
    rw [List.append_assoc]
    have e : (f x).toList ++ xs.filterMap f = (x :: xs).filterMap f := by
      rw [List.filterMap_cons]
      cases f x <;> rfl
    rw [e]; exact q
end Pl
namespace Tx
open PySem PySem.Spec L2 Pl
def C_lordered : Con := fun os post => ∃ (ds : List D) (ps : List Pat), os = [.sh (.list ds)] ∧ pats ds ps ∧ (∀ p ∈ ps, OkPat p) ∧ ps.length ≤ 100000 ∧ post (.fl ((inOrder ps).map nwPat)) os
theorem pats_at {ds : List D} {ps : List Pat} (h : pats ds ps) {i : Nat} {p : Pat} (e : ps[i]? = some p) : ∃ d, ds[i]? = some d ∧ vw d = enPat p := by
  have z := congrArg (fun l => l[i]?) h
  simp only [List.getElem?_map, e] at z
  cases q : ds[i]? with
  | none => rw [q] at z; cases z
  | some d =>
    rw [q] at z
    exact ⟨d, rfl, Option.some.inj z⟩
theorem h_lordered : ∀ os post, C_lordered os post → os.length = 1 ∧ r__law_ordered C_lplace (dEnds [] os post) (start0 N__law_ordered.length os) := by
  rintro os post ⟨ds, ps, rfl, hd, hp, hl, k⟩
  refine ⟨rfl, ?_⟩
  conv => whnf
  have hlen := len_of_map hd
  refine ⟨by rw [enumD_len, hlen]; exact Nat.le_of_lt (small (by omega)), ?_⟩
  obtain ⟨l1, r1⟩ := enumD_zip enPat ps ds 0 hd (P := fun d p => (p.1, p.2) ∈ ps.zipIdx → ∃ x, d = .tuple [.int (p.2 : Nat), x] ∧ vw x = enPat p.1) (fun d x i h _ => ⟨d, rfl, h⟩)
  refine lc_rel (fun d p => ∃ x, d = .tuple [.int (p.2 : Nat), x] ∧ vw x = enPat p.1 ∧ OkPat p.1) (fun p => some (it2 p)) [some (.sh (.list ds)), none, none, none, none] ?_ _ ps.zipIdx _ l1 ?_ ?_
  · rintro d p ⟨x, rfl, hx, ho⟩ R acc hR
    conv => whnf
    refine ⟨p.1, by rw [hx]; rfl, ho, ?_⟩
    conv => whnf
    exact hR
  · intro j d p e1 e2
    have hm := List.mem_of_getElem? e2
    obtain ⟨x, e, hx⟩ := r1 j d p e1 e2 hm
    refine ⟨x, e, hx, hp _ ?_⟩
    have := (List.mem_zipIdx hm)
    rw [this.2.2]
    exact List.getElem_mem _
  · rw [fm_some]
    conv => whnf
    obtain ⟨z1, z2, z3⟩ := sort2_ok ps.zipIdx
    refine ⟨z1, z2, z3, ?_⟩
    conv => whnf
    obtain ⟨L, eL, pL, fL⟩ := sort2 ps.zipIdx
    rw [List.nil_append, eL]
    refine ⟨by rw [List.length_map, pL.length_eq, List.length_zipIdx]; exact Nat.le_of_lt (small (by omega)), ?_⟩
    refine lc_rel (fun d p => d = it2 p ∧ ps[p.2]? = some p.1) (fun p => some (nwPat p.1)) [some (.sh (.list ds)), some (.sh (.nl (L.map it2))), none, none, none] ?_ _ L _ (by rw [List.length_map]) ?_ ?_
    · rintro d p ⟨rfl, hx⟩ R acc hR
      conv => whnf
      obtain ⟨x, ex, hv⟩ := pats_at hd hx
      rw [atI_nat ex]
      conv => whnf
      rw [hv]
      exact hR
    · intro j d p e1 e2
      rw [List.getElem?_map, e2] at e1
      refine ⟨(Option.some.inj e1).symm, ?_⟩
      have hm := pL.mem_iff.mp (List.mem_of_getElem? e2)
      have := List.mem_zipIdx hm
      have h2 : p.2 < ps.length := by omega
      rw [List.getElem?_eq_getElem h2, this.2.2]
      simp
    · rw [fm_some]
      have e : L.map (fun p => nwPat p.1) = (inOrder ps).map nwPat := by
        have e1 : ps.zipIdx.map Prod.fst = ps := List.zipIdx_map_fst 0 ps
        rw [e1] at fL
        rw [← fL, List.map_map]; rfl
      rw [e]
      exact k
end Tx
namespace Tx
open PySem PySem.Spec L2 Pl
/-- whether a word fits a part -/
def fitsPt (p : Pt) (w : Str) : Bool := match p with
  | .w s => decide (s = w)
  | .h k => decide (k = .any) || decide (k.str = lkind w)
/-- whether a line of these words fits a pattern -/
def fitsWs : Pat → List Str → Bool
  | [], [] => true
  | p :: ps, w :: ws => fitsPt p w && fitsWs ps ws
  | _, _ => false
def fitsP (p : Pat) (z : Str) : Bool := fitsWs p (Txt.split z " ")
theorem fitsWs_len : ∀ {p : Pat} {ws : List Str}, fitsWs p ws = true → p.length = ws.length
  | [], [], _ => rfl
  | [], _ :: _, h => by cases h
  | _ :: _, [], h => by cases h
  | p :: ps, w :: ws, h => by
    have h : (fitsPt p w && fitsWs ps ws) = true := h
    rw [Bool.and_eq_true] at h
    rw [List.length_cons, List.length_cons, fitsWs_len h.2]
theorem fitsWs_snoc : ∀ {p : Pat} {ws : List Str} {x : Pt} {w : Str}, fitsWs p ws = true → fitsPt x w = true → fitsWs (p ++ [x]) (ws ++ [w]) = true
  | [], [], x, w, _, h => by show (fitsPt x w && true) = true; rw [h]; rfl
  | [], _ :: _, _, _, h, _ => by cases h
  | _ :: _, [], _, _, h, _ => by cases h
  | p :: ps, v :: ws, x, w, h, k => by
    have h : (fitsPt p v && fitsWs ps ws) = true := h
    rw [Bool.and_eq_true] at h
    show (fitsPt p v && fitsWs (ps ++ [x]) (ws ++ [w])) = true
    rw [h.1, fitsWs_snoc h.2 k]; rfl
def C_lpattern : Con := fun os post => ∃ (n m : Nat) (d : List D) (z : Str), os = [.fl d, .sh (.str z)] ∧ IsLn m z ∧ m ≤ 1000 ∧ Deck (n + m) d ∧ ∀ (p : Pat) d', OkPat p → p ≠ [] → fitsP p z = true → Deck n d' → post (.fl (p.map enP)) [.fl d', .sh (.str z)]
theorem kind_is (w : Str) : lkind w = "number" ∨ lkind w = "name" ∨ lkind w = "other" := by
  unfold lkind
  split
  · exact .inl rfl
  · split
    · exact .inr (.inl rfl)
    · exact .inr (.inr rfl)
theorem h_lpattern : ∀ os post, C_lpattern os post → os.length = 2 ∧ r__law_pattern C_pick C_kind (dEnds [0] os post) (start0 N__law_pattern.length os) := by
  rintro os post ⟨n, m, d, z, rfl, hz, hm, hd, k⟩
  refine ⟨rfl, ?_⟩
  have hzl := hz.len
  conv => whnf
  refine ⟨by decide, ?_⟩
  conv => whnf
  refine ⟨by have := sizeLine_eq; omega, ?_⟩
  obtain ⟨ws, es, _, s0, s1, s2⟩ := hz.split
  unfold fitsP at k
  rw [es] at k
  conv => whnf
  rw [es]
  refine loop_ind (fun ds ρ => ∃ d' pre done rest a3 a4 a5, Deck (n + (rest : List Str).length) d' ∧ ds = rest.map .str ∧ (ws = pre ++ rest ∧ fitsWs done pre = true) ∧ (∀ x ∈ done, OkPt x) ∧ (∀ w ∈ rest, IsWd w) ∧ ρ = [some (.fl d'), some (.sh (.str z)), some (.fl (done.map enP)), a3, a4, a5]) ?_ ?_ _ _ ⟨d, [], [], ws, none, none, none, hd.le (by omega), rfl, ⟨rfl, rfl⟩, by simp, s2, rfl⟩
  · rintro ρ ⟨d', pre, done, rest, a3, a4, a5, e1, e2, e3, e4, e5, rfl⟩
    have e : rest = [] := List.map_eq_nil_iff.mp e2.symm
    subst e
    have e3 : ws = pre ∧ fitsWs done pre = true := by rw [List.append_nil] at e3; exact e3
    obtain ⟨rfl, e3⟩ := e3
    have el := fitsWs_len e3
    refine k done d' ⟨by omega, e4⟩ ?_ e3 (e1.le (by omega))
    rintro rfl
    exact s0 (List.length_eq_zero_iff.mp el.symm)
  · rintro x ds ρ R ⟨d', pre, done, rest, a3, a4, a5, e1, e2, e3, e4, e5, rfl⟩ hR
    cases rest with
    | nil => cases e2
    | cons w rest =>
      rw [List.map_cons, List.cons.injEq] at e2
      obtain ⟨rfl, rfl⟩ := e2
      rw [List.length_cons] at e1
      have e6 := fitsWs_len e3.2
      have e7 := congrArg List.length e3.1
      rw [List.length_append, List.length_cons] at e7
      have hw : IsWd w := e5 w (List.mem_cons_self ..)
      have fin : ∀ (y : Pt) d'' a4 a5, OkPt y → fitsPt y w = true → Deck (n + rest.length) d'' → done.length < sizeLine ∧ R [some (.fl d''), some (.sh (.str z)), some (.fl (done.map enP ++ [enP y])), some (.sh (.str w)), a4, a5] := fun y d'' a4 a5 hy hf hd'' =>
        ⟨small (by omega), hR _ ⟨d'', pre ++ [w], done ++ [y], rest, _, _, _, hd'', rfl, ⟨by rw [e3.1, List.append_assoc]; rfl, fitsWs_snoc e3.2 hf⟩, fun x hx => by
          rcases List.mem_append.mp hx with hx | hx
          · exact e4 x hx
          · rw [List.mem_singleton.mp hx]; exact hy, fun x hx => e5 x (List.mem_cons_of_mem _ hx), by rw [List.map_append]; rfl⟩⟩
      conv => whnf
      refine ⟨w, rfl, Nat.le_trans hw.2.1 (Nat.le_of_lt (small (by omega))), ?_⟩
      conv => whnf
      refine ⟨n + rest.length, d', 6, rfl, e1.le (by omega), by omega, by omega, fun q d2 q0 q1 hd2 => ?_⟩
      conv => whnf
      split
      · conv => whnf
        obtain ⟨h1, h2⟩ := fin (.w w) d2 (some (.sh (.str (lkind w)))) (some (.sh (.int q))) hw (by show decide (w = w) = true; simp) hd2
        exact ⟨by rw [List.length_map]; exact h1, h2⟩
      · conv => whnf
        split
        · conv => whnf
          refine ⟨dR (d_str _), ?_⟩
          conv => whnf
          rcases kind_is w with e | e | e
          · rw [e]
            conv => whnf
            obtain ⟨h1, h2⟩ := fin (.h .number) d2 (some (.sh (.str "number"))) (some (.sh (.int q))) trivial (by show (decide (Hk.number = Hk.any) || decide (Hk.number.str = lkind w)) = true; rw [e]; decide) hd2
            exact ⟨by rw [List.length_map]; exact h1, h2⟩
          · rw [e]
            conv => whnf
            obtain ⟨h1, h2⟩ := fin (.h .name) d2 (some (.sh (.str "name"))) (some (.sh (.int q))) trivial (by show (decide (Hk.name = Hk.any) || decide (Hk.name.str = lkind w)) = true; rw [e]; decide) hd2
            exact ⟨by rw [List.length_map]; exact h1, h2⟩
          · rw [e]
            conv => whnf
            obtain ⟨h1, h2⟩ := fin (.h .any) d2 (some (.sh (.str "other"))) (some (.sh (.int q))) trivial rfl hd2
            exact ⟨by rw [List.length_map]; exact h1, h2⟩
        · conv => whnf
          obtain ⟨h1, h2⟩ := fin (.h .any) d2 (some (.sh (.str (lkind w)))) (some (.sh (.int q))) trivial rfl hd2
          exact ⟨by rw [List.length_map]; exact h1, h2⟩
end Tx
namespace Tx
open PySem PySem.Spec L2 Pl
/-- [test of sign for sign in a text] -/
theorem tests_ok {i : Nat} {ρ : Ev} {w : Str} {te : TPe} {f : Nat → Bool} {Q : O → Ev → Prop} (hw : w.length ≤ sizeLine) (ti : TPi) (hi : ∀ K, K (w.cps.toList.map fun c => Pl.D.str (sgn c)) ρ → ti ρ K) (hl : i < (wipeE ρ [i]).length)
    (hb : ∀ d, back ρ ((wipeE ρ [i]).set i (some d)) [i] = ρ) (ht : ∀ c (R : Pl.D → Ev → Prop), R (.bool (f c)) ((wipeE ρ [i]).set i (some (.sh (.str (sgn c))))) → te ((wipeE ρ [i]).set i (some (.sh (.str (sgn c))))) R)
    (q : Q (.fl ((w.cps.toList.map f).map .bool)) ρ) : oLc ti (gNm i) tYes' te [i] ρ Q := by
  refine hi _ ⟨by rw [List.length_map, Array.length_toList]; exact hw, ?_⟩
  refine lc_mt id (fun c => Pl.D.str (sgn c)) (fun c => some (.bool (f c))) (fun _ => True) ρ ?_ _ w.cps.toList _ (by rw [List.map_id]) (fun _ _ => trivial) ?_
  · intro d c hd _ R acc hR
    have hd : d = .str (sgn c) := hd
    subst hd
    refine ht c _ ?_
    rw [hb]
    exact hR
  · rw [fm_some, List.nil_append]
    rw [List.map_map] at q
    exact q
theorem all_btw (a b : Nat) (w : Str) : ((w.cps.toList.map fun c => decide (a ≤ c ∧ c ≤ b)).all id) = decide (btw a b w) := by
  rw [List.all_map]
  have e : w.cps.toList.all (id ∘ fun c => decide (a ≤ c ∧ c ≤ b)) = decide (∀ c ∈ w.cps.toList, a ≤ c ∧ c ≤ b) := by
    rw [Bool.eq_iff_iff, List.all_eq_true, decide_eq_true_iff]
    simp
  rw [e]
  exact decide_eq_decide.mpr Iff.rfl
theorem chE_sgn (a b : Nat) {c i : Nat} {ρ : Ev} {Q : Pl.D → Ev → Prop} (h : ρ[i]? = some (some (.sh (.str (sgn c))))) (q : Q (.bool (decide (a ≤ c ∧ c ≤ b))) ρ) : eO (oCh pLe pLe (xE (eC (.str (sgn a)))) (xV i) (xE (eC (.str (sgn b))))) ρ Q := by
  simp only [eO, oCh, xE, eC, xV, h, res, rdO, vw, fz, pLe, le_sgn]
  by_cases h1 : a ≤ c
  · rw [decide_eq_true h1]
    have e : decide (a ≤ c ∧ c ≤ b) = decide (c ≤ b) := by simp [h1]
    rw [← e]; exact q
  · rw [decide_eq_false h1]
    have e : decide (a ≤ c ∧ c ≤ b) = false := by simp [h1]
    rw [e] at q
    exact q
theorem figures_mem (c : Nat) : decide (c ∈ ("0123456789" : Str).cps.toList) = decide (48 ≤ c ∧ c ≤ 57) := by
  apply decide_eq_decide.mpr
  have e : ("0123456789" : Str).cps.toList = [48, 49, 50, 51, 52, 53, 54, 55, 56, 57] := by decide +kernel
  rw [e]
  simp only [List.mem_cons, List.not_mem_nil, or_false]
  omega
theorem h_kindof : ∀ os post, C_kind os post → os.length = 1 ∧ r_kind_of (dEnds [] os post) (start0 N_kind_of.length os) := by
  rintro os post ⟨w, rfl, hl, k⟩
  refine ⟨rfl, ?_⟩
  have key : ∀ f : Str, f = lfig w → zSeq r_kind_of_3 (zSeq r_kind_of_4 (zSeq r_kind_of_5 zNx)) (dEnds [] [.sh (.str w)] post) [some (.sh (.str w)), some (.sh (.str f)), none] := by
    intro f ef
    have hfl : f.length ≤ sizeLine := by rw [ef]; exact Nat.le_trans (lfig_len w) hl
    have rest : ¬ (f ≠ "" ∧ figs f) → zSeq r_kind_of_4 (zSeq r_kind_of_5 zNx) (dEnds [] [.sh (.str w)] post) [some (.sh (.str w)), some (.sh (.str f)), none] := by
      intro hn
      have e : lkind w = if lets w then ("name" : Str) else "other" := by rw [ef] at hn; exact if_neg hn
      rw [e] at k
      refine tests_ok (i := 2) (w := w) (f := fun c => decide (97 ≤ c ∧ c ≤ 122)) hl _ (fun K h => h) (Nat.lt_succ_self 2) (fun _ => rfl) (fun c R h => chE_sgn 97 122 rfl h) ?_
      conv => whnf
      rw [boolsOf_map]
      conv => whnf
      rw [all_btw]
      by_cases hle : lets w
      · rw [decide_eq_true hle]; rw [if_pos hle] at k; exact k
      · rw [decide_eq_false hle]; rw [if_neg hle] at k; exact k
    conv => whnf
    refine ⟨dR (d_str _), ?_⟩
    conv => whnf
    rw [er_vw, er_vw, eqv_str]
    split
    · rename_i e
      have e : f ≠ "" := by simpa using e
      refine tests_ok (i := 2) (w := f) (f := fun c => decide (48 ≤ c ∧ c ≤ 57)) hfl _ (fun K h => h) (Nat.lt_succ_self 2) (fun _ => rfl) (fun c R h => ⟨c, rfl, ?_⟩) ?_
      · conv => whnf
        rw [← figures_mem] at h
        exact h
      · conv => whnf
        rw [boolsOf_map]
        conv => whnf
        rw [all_btw]
        by_cases h : figs f
        · rw [decide_eq_true h]
          have e2 : lkind w = "number" := by rw [ef] at e h; exact if_pos ⟨e, h⟩
          rw [e2] at k
          exact k
        · rw [decide_eq_false h]
          exact rest fun z => h z.2
    · rename_i e
      have e : f = "" := by simpa using e
      exact rest fun z => z.1 e
  conv => whnf
  refine ⟨hl, ?_⟩
  conv => whnf
  refine ⟨dR (d_str _), ?_⟩
  conv => whnf
  rw [er_vw, er_vw, eqv_str]
  split
  · rename_i e
    have e := of_decide_eq_true e
    conv => whnf
    refine ⟨hl, ?_⟩
    exact key _ (if_pos e).symm
  · rename_i e
    have e := of_decide_eq_false e
    exact key w (if_neg e).symm
end Tx
namespace Tx
open PySem PySem.Spec L2 Pl
def C_words : Con := fun os post => ∃ z : Str, os = [.sh (.str z)] ∧ z.length ≤ 1000000 ∧ post (.fl ((Txt.split z " ").map .str)) os
theorem h_words : ∀ os post, C_words os post → os.length = 1 ∧ r_words_of (dEnds [] os post) (start0 N_words_of.length os) := by
  rintro os post ⟨z, rfl, hl, k⟩
  refine ⟨rfl, ?_⟩
  conv => whnf
  refine ⟨by decide, ?_⟩
  conv => whnf
  exact ⟨by have := sizeLine_eq; omega, k⟩
def C_fitsPt : Con := fun os post => ∃ (p : Pt) (w : Str), os = [.sh (enP p), .sh (.str w)] ∧ w.length ≤ 1000000 ∧ post (.sh (.bool (fitsPt p w))) os
theorem h_fitsPt : ∀ os post, C_fitsPt os post → os.length = 2 ∧ r_fits_part C_kind (dEnds [] os post) (start0 N_fits_part.length os) := by
  rintro os post ⟨p, w, rfl, hl, k⟩
  refine ⟨rfl, ?_⟩
  have hw : w.length ≤ sizeLine := by have := sizeLine_eq; omega
  cases p with
  | w s =>
    conv => whnf
    refine ⟨dR (d_str _), ?_⟩
    conv => whnf
    refine ⟨dR (d_str _), ?_⟩
    rw [er_vw, er_vw, eqv_str]
    exact k
  | h j =>
    conv => whnf
    refine ⟨dR (d_str _), ?_⟩
    conv => whnf
    refine ⟨dR (d_str _), ?_⟩
    cases j
    · refine ⟨w, rfl, hw, ?_⟩
      conv => whnf
      refine ⟨dL (d_str _), ?_⟩
      conv => whnf
      rw [er_vw, er_vw, eqv_str]
      exact k
    · refine ⟨w, rfl, hw, ?_⟩
      conv => whnf
      refine ⟨dL (d_str _), ?_⟩
      conv => whnf
      rw [er_vw, er_vw, eqv_str]
      exact k
    · exact k
end Tx
namespace Tx
open PySem PySem.Spec L2 Pl
def C_fits : Con := fun os post => ∃ (p : Pat) (z : Str), os = [.sh (enPat p), .sh (.str z)] ∧ z.length ≤ 100000 ∧ post (.sh (.bool (fitsP p z))) os
theorem h_fits : ∀ os post, C_fits os post → os.length = 2 ∧ r_fits C_fitsPt C_words (dEnds [] os post) (start0 N_fits.length os) := by
  rintro os post ⟨p, z, rfl, hl, k⟩
  refine ⟨rfl, ?_⟩
  conv => whnf
  refine ⟨z, rfl, by omega, ?_⟩
  have hsz : ∀ w ∈ Txt.split z " ", w.length ≤ 1000000 := fun w hw => Nat.le_trans (PyProof.Rows.part_short hw) (by omega)
  unfold fitsP at k
  revert k hsz
  generalize Txt.split z " " = ws
  intro k hsz
  conv => whnf
  refine ⟨dR (d_int _), ?_⟩
  conv => whnf
  rw [er_vw, er_vw, eqv_int]
  by_cases hlen : ws.length = p.length
  · have e : decide (((ws.map Pl.D.str).length : Int) = ((p.map enP).length : Nat)) = true := by
      rw [List.length_map, List.length_map, hlen]; simp
    have e' : decide (((List.map Pl.D.str ws).length : Int) = ((List.map enP p).length : Int)) = true := e
    rw [e']
    conv => whnf
    refine loop_ind (fun ds ρ => ∃ ps vs a3 a4, ds = zipD ((ps : Pat).map enP) ((vs : List Str).map .str) ∧ ps.length = vs.length ∧ (∀ w ∈ vs, w.length ≤ 1000000) ∧ (fitsWs ps vs = fitsWs p ws) ∧ ρ = [some (.sh (enPat p)), some (.sh (.str z)), some (.sh (.nl (ws.map .str))), a3, a4]) ?_ ?_ _ _ ⟨p, ws, none, none, rfl, hlen.symm, hsz, rfl, rfl⟩
    · rintro ρ ⟨ps, vs, a3, a4, e1, e2, e3, e4, rfl⟩
      have : ps = [] := by
        cases ps with
        | nil => rfl
        | cons x r =>
          cases vs with
          | nil => cases e2
          | cons w t => cases e1
      subst this
      have : vs = [] := List.length_eq_zero_iff.mp e2.symm
      subst this
      rw [← e4] at k
      exact k
    · rintro d ds ρ R ⟨ps, vs, a3, a4, e1, e2, e3, e4, rfl⟩ hR
      cases ps with
      | nil => cases e1
      | cons x r =>
        cases vs with
        | nil => cases e2
        | cons w t =>
          have e1 : d :: ds = .tuple [enP x, .str w] :: zipD (r.map enP) (t.map .str) := e1
          rw [List.cons.injEq] at e1
          obtain ⟨rfl, rfl⟩ := e1
          have hx : vw (enP x) = enP x := by cases x <;> rfl
          conv => whnf
          refine ⟨x, w, by rw [hx]; rfl, e3 w (List.mem_cons_self ..), ?_⟩
          conv => whnf
          have e4 : (fitsPt x w && fitsWs r t) = fitsWs p ws := e4
          cases hf : fitsPt x w with
          | false =>
            rw [hf] at e4
            rw [← e4] at k
            exact k
          | true =>
            rw [hf] at e4
            exact hR _ ⟨r, t, _, _, rfl, by simpa using e2, fun v hv => e3 v (List.mem_cons_of_mem _ hv), e4, rfl⟩
  · have e' : decide (((List.map Pl.D.str ws).length : Int) = ((List.map enP p).length : Int)) = false := by
      rw [List.length_map, List.length_map]; simp; omega
    rw [e']
    have ef : fitsWs p ws = false := by
      cases h : fitsWs p ws with
      | false => rfl
      | true => exact absurd (fitsWs_len h).symm hlen
    rw [ef] at k
    exact k
end Tx
namespace Tx
open PySem PySem.Spec L2 Pl
theorem ecP_inj {p q : Pt} (h : ec p = ec q) : p = q := by
  cases p <;> cases q <;> simp [ec] at h
  · rw [h]
  · exact absurd h.1 (by decide)
  · exact absurd h.1 (by decide)
  · rename_i a b; cases a <;> cases b <;> first | rfl | (exfalso; revert h; decide)
theorem eqv_P (p q : Pt) : (er (enP p)).eqv (er (enP q)) = decide (p = q) := by
  rw [er_P, er_P, PySem.W.Datum.eqv]
  exact decide_eq_decide.mpr ⟨ecP_inj, fun h => by rw [h]⟩
theorem d_P (p : Pt) : (er (enP p)).depth ≤ 64 := by rw [er_P]; exact Nat.le_trans (PySem.W.Datum.depth_le _) (by decide)
/-- whether each word that fits a part fits another one -/
def inPt (a b : Pt) : Bool := match a with
  | .w s => fitsPt b s
  | .h k => decide (b = .h k) || decide (b = .h .any)
def C_inPt : Con := fun os post => ∃ (a b : Pt), os = [.sh (enP a), .sh (enP b)] ∧ OkPt a ∧ post (.sh (.bool (inPt a b))) os
theorem h_inPt : ∀ os post, C_inPt os post → os.length = 2 ∧ r_part_within C_fitsPt (dEnds [] os post) (start0 N_part_within.length os) := by
  rintro os post ⟨a, b, rfl, ha, k⟩
  refine ⟨rfl, ?_⟩
  cases a with
  | w s =>
    conv => whnf
    refine ⟨dR (d_str _), ?_⟩
    conv => whnf
    refine ⟨b, s, by cases b <;> rfl, by have := ha.2.1; omega, ?_⟩
    exact k
  | h j =>
    conv => whnf
    refine ⟨dR (d_str _), ?_⟩
    conv => whnf
    refine ⟨by rw [er_vw]; exact dL (d_P b), ?_⟩
    have e1 : (er (vw (enP b))).eqv (er (vw (enP (.h j)))) = decide (b = .h j) := by rw [er_vw, er_vw, eqv_P]
    have e2 : (er (vw (enP b))).eqv (er (vw (enP (.h .any)))) = decide (b = .h .any) := by rw [er_vw, er_vw, eqv_P]
    have e1' : (er (vw (enP b))).eqv (er (vw (.tuple [.str "hole", .str j.str]))) = decide (b = .h j) := e1
    conv => whnf
    rw [e1]
    have k : post (.sh (.bool (decide (b = .h j) || decide (b = .h .any)))) [.sh (enP (.h j)), .sh (enP b)] := k
    cases hb : decide (b = .h j) with
    | true =>
      rw [hb] at k
      exact k
    | false =>
      rw [hb] at k
      conv => whnf
      refine ⟨by rw [er_vw]; exact dL (d_P b), ?_⟩
      have e2' : (er (vw (enP b))).eqv (er (vw (.tuple [.str "hole", .str "any"]))) = decide (b = .h .any) := e2
      conv => whnf
      rw [e2']
      exact k
end Tx
namespace Tx
open PySem PySem.Spec L2 Pl
/-- how loose a part is -/
def looPt : Pt → Int
  | .w _ => 0
  | .h .any => 2
  | .h _ => 1
def loo (p : Pat) : List Int := p.map looPt
def C_loo : Con := fun os post => ∃ p : Pat, os = [.sh (enPat p)] ∧ OkPat p ∧ post (.fl ((loo p).map .int)) os
theorem h_loo : ∀ os post, C_loo os post → os.length = 1 ∧ r_looseness (dEnds [] os post) (start0 N_looseness.length os) := by
  rintro os post ⟨p, rfl, ⟨hl, hp⟩, k⟩
  refine ⟨rfl, ?_⟩
  conv => whnf
  refine loop_ind (fun ds ρ => ∃ done rest a2, p = done ++ rest ∧ ds = rest.map enP ∧ ρ = [some (.sh (enPat p)), some (.fl ((loo (done : Pat)).map .int)), a2]) ?_ ?_ _ _ ⟨[], p, none, rfl, rfl, rfl⟩
  · rintro ρ ⟨done, rest, a2, e1, e2, rfl⟩
    have e : rest = [] := List.map_eq_nil_iff.mp e2.symm
    subst e
    rw [List.append_nil] at e1
    subst e1
    exact k
  · rintro d ds ρ R ⟨done, rest, a2, e1, e2, rfl⟩ hR
    cases rest with
    | nil => cases e2
    | cons x rest =>
      rw [List.map_cons, List.cons.injEq] at e2
      obtain ⟨rfl, rfl⟩ := e2
      have hlen : done.length < 1000000 := by have := congrArg List.length e1; rw [List.length_append, List.length_cons] at this; omega
      have fin : R [some (.sh (enPat p)), some (.fl ((loo done).map .int ++ [.int (looPt x)])), some (.sh (enP x))] := hR _ ⟨done ++ [x], rest, _, by rw [e1, List.append_assoc]; rfl, rfl, by unfold loo; rw [List.map_append, List.map_append]; rfl⟩
      have hll : ((loo done).map Pl.D.int).length < sizeLine := by unfold loo; rw [List.length_map, List.length_map]; exact small (by omega)
      cases x with
      | w s =>
        conv => whnf
        refine ⟨dR (d_str _), ?_⟩
        conv => whnf
        exact ⟨hll, fin⟩
      | h j =>
        conv => whnf
        refine ⟨dR (d_str _), ?_⟩
        conv => whnf
        refine ⟨dR (d_str _), ?_⟩
        cases j
        all_goals
          conv => whnf
          exact ⟨hll, fin⟩
end Tx
namespace Tx
open PySem PySem.Spec L2 Pl
def inAll : Pat → Pat → Bool
  | a :: as, b :: bs => inPt a b && inAll as bs
  | _, _ => true
/-- whether each line that fits a pattern fits another one -/
def inPat (p q : Pat) : Bool := decide (p.length = q.length) && inAll p q
theorem all_zip : ∀ (p q : Pat), ((p.zip q).map fun x => inPt x.1 x.2).all id = inAll p q
  | [], _ => rfl
  | _ :: _, [] => rfl
  | a :: as, b :: bs => by
    show (inPt a b && ((as.zip bs).map fun x => inPt x.1 x.2).all id) = _
    rw [all_zip as bs]; rfl
theorem zip_pats : ∀ (p q : Pat), zipD (p.map enP) (q.map enP) = (p.zip q).map fun x => Pl.D.tuple [enP x.1, enP x.2]
  | [], _ => rfl
  | _ :: _, [] => rfl
  | a :: as, b :: bs => by
    show Pl.D.tuple [enP a, enP b] :: zipD (as.map enP) (bs.map enP) = _
    rw [zip_pats as bs]; rfl
def C_inPat : Con := fun os post => ∃ (p q : Pat), os = [.sh (enPat p), .sh (enPat q)] ∧ OkPat p ∧ post (.sh (.bool (inPat p q))) os
theorem h_inPat : ∀ os post, C_inPat os post → os.length = 2 ∧ r_is_within C_inPt (dEnds [] os post) (start0 N_is_within.length os) := by
  rintro os post ⟨p, q, rfl, ⟨hl, hp⟩, k⟩
  refine ⟨rfl, ?_⟩
  conv => whnf
  refine ⟨dR (d_int _), ?_⟩
  have e1 : (er (vw (.int ((p.map enP).length : Nat)))).eqv (er (vw (.int ((q.map enP).length : Nat)))) = decide (p.length = q.length) := by
    rw [er_vw, er_vw, eqv_int, List.length_map, List.length_map]
    exact decide_eq_decide.mpr (by omega)
  conv => whnf
  rw [e1]
  unfold inPat at k
  cases hq : decide (p.length = q.length) with
  | false =>
    rw [hq] at k
    exact k
  | true =>
    rw [hq] at k
    conv => whnf
    refine ⟨by rw [zip_pats, List.length_map, List.length_zip]; exact Nat.le_of_lt (small (by omega)), ?_⟩
    rw [zip_pats]
    refine lc_mt id (fun x : Pt × Pt => Pl.D.tuple [enP x.1, enP x.2]) (fun x => some (.bool (inPt x.1 x.2))) (fun x => OkPt x.1) [some (.sh (enPat p)), some (.sh (enPat q)), none, none] ?_ _ (p.zip q) _ (by rw [List.map_id]) (fun x hx => hp x.1 (List.of_mem_zip hx).1) ?_
    · rintro d ⟨a, b⟩ hd ha R acc hR
      have hd : d = .tuple [enP a, enP b] := hd
      subst hd
      conv => whnf
      refine ⟨a, b, by cases a <;> cases b <;> rfl, ha, ?_⟩
      exact hR
    · rw [fm_some, List.nil_append]
      conv => whnf
      have e2 : (p.zip q).map (fun x => Pl.D.bool (inPt x.1 x.2)) = ((p.zip q).map fun x => inPt x.1 x.2).map .bool := by rw [List.map_map]; rfl
      rw [e2, boolsOf_map]
      conv => whnf
      rw [all_zip]
      exact k
end Tx
/-! the pattern under which a line falls: maths -/
namespace Pl
open PySem PySem.Spec L2
open PySem.W in
/-- the order of ordered data -/
theorem dle_total (α : Type) [DecidableEq α] [DatumOrd α] : TotalLe (fun a b : α => !DatumOrd.lt b a) := by
  have e : (fun a b : α => !DatumOrd.lt b a) = dataLe false (fun a : α => Datum.toD a) := by
    funext a b
    show (!DatumOrd.lt b a) = !dataLt _ _
    rw [DatumOrd.lt_eq]
  rw [e]; exact le_total _
open PySem.W in
theorem dle_anti {α : Type} [DecidableEq α] [DatumOrd α] {a b : α} (h1 : DatumOrd.lt b a = false) (h2 : DatumOrd.lt a b = false) : a = b := by
  have z := rank_eqv (x := Datum.toD a) (y := Datum.toD b) (DatumOrd.alike _ _) (by rw [DatumOrd.lt_eq]; exact h2) (by rw [DatumOrd.lt_eq]; exact h1)
  rw [Datum.eqv] at z
  exact of_decide_eq_true z
end Pl
namespace Tx
open PySem PySem.Spec L2 Pl
open PySem.W in
def lolt (p q : Pat) : Bool := DatumOrd.lt (loo p) (loo q)
open PySem.W in
/-- the order by looseness, then by place -/
def flt (p q : Pat) : Bool := DatumOrd.lt (loo p, f1 p) (loo q, f1 q)
open PySem.W in
theorem flt_eq (p q : Pat) : flt p q = if loo p = loo q then plt p q else lolt p q := rfl
open PySem.W in
theorem fle_total : TotalLe (fun p q : Pat => !flt q p) := by
  have h := dle_total ((List Int) × (Int × List K1))
  exact ⟨fun a b c => h.trans _ _ _, fun a b => h.total _ _⟩
theorem fle_anti {p q : Pat} (h1 : flt q p = false) (h2 : flt p q = false) : p = q := by
  have := dle_anti (a := (loo p, f1 p)) (b := (loo q, f1 q)) h1 h2
  exact f1_inj (congrArg Prod.snd this)
/-- the one under which a line falls -/
def IsFall (z : Str) (ps : List Pat) : Option Pat → Prop
  | none => ∀ p ∈ ps, fitsP p z = false
  | some m => m ∈ ps ∧ fitsP m z = true ∧ ∀ p ∈ ps, fitsP p z = true → flt p m = false
theorem IsFall.one {z : Str} {ps : List Pat} : ∀ {r s : Option Pat}, IsFall z ps r → IsFall z ps s → r = s
  | none, none, _, _ => rfl
  | none, some m, h, k => by have := h m k.1; rw [k.2.1] at this; cases this
  | some m, none, k, h => by have := h m k.1; rw [k.2.1] at this; cases this
  | some m, some n, h, k => by rw [fle_anti (h.2.2 n k.1 k.2.1) (k.2.2 m h.1 h.2.1)]
theorem IsFall.same {z : Str} {ps qs : List Pat} (h : ∀ p, fitsP p z = true → (p ∈ ps ↔ p ∈ qs)) : ∀ {r : Option Pat}, IsFall z ps r → IsFall z qs r
  | none, k => fun p hp => by
    cases e : fitsP p z with
    | false => rfl
    | true => have := k p ((h p e).mpr hp); rw [e] at this; cases this
  | some m, ⟨k1, k2, k3⟩ => ⟨(h m k2).mp k1, k2, fun p hp e => k3 p ((h p e).mpr hp) e⟩
/-- the first of the least loose of those that a line fits -/
def nbetter (z : Str) (b : Option Pat) (p : Pat) : Bool := fitsP p z && (match b with
  | none => true
  | some c => lolt p c)
def narrow (z : Str) : Option Pat → List Pat → Option Pat
  | b, [] => b
  | b, p :: ps => narrow z (if nbetter z b p = true then some p else b) ps
def falls (z : Str) (ps : List Pat) : Option Pat := narrow z none (inOrder ps)
theorem fle_le {p c : Pat} (h : lolt p c = false) (k : ple c p = true) : flt p c = false := by
  rw [flt_eq]
  split
  · simpa [ple] using k
  · exact h
theorem flt_lo {p c : Pat} (h : lolt p c = true) : flt p c = true := by
  rw [flt_eq, if_neg]
  · exact h
  · intro e
    unfold lolt at h
    rw [e, lt_self] at h; cases h
theorem flt_asym {p q : Pat} (h : flt p q = true) : flt q p = false := by
  have := fle_total.total p q
  rw [h] at this
  cases e : flt q p with
  | false => rfl
  | true => rw [e] at this; simp at this
theorem flt_self (p : Pat) : flt p p = false := lt_self _
theorem fle_trans {a b c : Pat} (h1 : flt b a = false) (h2 : flt c b = false) : flt c a = false := by
  have := fle_total.trans a b c (by rw [h1]; rfl) (by rw [h2]; rfl)
  simpa using this
theorem narrow_is (z : Str) : ∀ (ps done : List Pat) (b : Option Pat), ps.Pairwise (fun a b => ple a b = true) → (∀ c, b = some c → ∀ p ∈ ps, ple c p = true) → IsFall z done b → IsFall z (done ++ ps) (narrow z b ps)
  | [], done, b, _, _, h => by rw [List.append_nil]; exact h
  | p :: ps, done, b, hs, hb, h => by
    rw [List.pairwise_cons] at hs
    have e : done ++ p :: ps = (done ++ [p]) ++ ps := by simp
    rw [e]
    unfold narrow
    refine narrow_is z ps (done ++ [p]) _ hs.2 ?_ ?_
    · intro c hc q hq
      by_cases cc : nbetter z b p = true
      · rw [if_pos cc] at hc
        cases hc; exact hs.1 q hq
      · rw [if_neg cc] at hc
        exact hb c hc q (List.mem_cons_of_mem _ hq)
    · unfold nbetter
      cases hf : fitsP p z with
      | false =>
        show IsFall z (done ++ [p]) b
        refine IsFall.same (fun q hq => ?_) h
        rw [List.mem_append, List.mem_singleton]
        constructor
        · exact .inl
        · rintro (h | rfl)
          · exact h
          · rw [hf] at hq; cases hq
      | true =>
        cases b with
        | none =>
          refine ⟨by simp, hf, fun q hq e => ?_⟩
          rcases List.mem_append.mp hq with hq | hq
          · have := h q hq; rw [e] at this; cases this
          · rw [List.mem_singleton.mp hq]; exact flt_self p
        | some c =>
          show IsFall z (done ++ [p]) (if (true && lolt p c) = true then some p else some c)
          cases hl : lolt p c with
          | true =>
            refine ⟨by simp, hf, fun q hq e => ?_⟩
            rcases List.mem_append.mp hq with hq | hq
            · exact fle_trans (flt_asym (flt_lo hl)) (h.2.2 q hq e)
            · rw [List.mem_singleton.mp hq]; exact flt_self p
          | false =>
            refine ⟨by simp [h.1], h.2.1, fun q hq e => ?_⟩
            rcases List.mem_append.mp hq with hq | hq
            · exact h.2.2 q hq e
            · rw [List.mem_singleton.mp hq]; exact fle_le hl (hb c rfl p (List.mem_cons_self ..))
theorem falls_is (z : Str) (ps : List Pat) : IsFall z ps (falls z ps) := by
  have h := narrow_is z (inOrder ps) [] none (inOrder_sorted ps) (fun _ e => by cases e) (fun _ h => by cases h)
  rw [List.nil_append] at h
  exact IsFall.same (fun p _ => (inOrder_perm ps).mem_iff) h
theorem falls_same {z : Str} {ps qs : List Pat} (h : ∀ p, fitsP p z = true → (p ∈ ps ↔ p ∈ qs)) : falls z ps = falls z qs := IsFall.one ((falls_is z ps).same h) (falls_is z qs)
theorem falls_eq {z : Str} {ps : List Pat} {r : Option Pat} (h : IsFall z ps r) : falls z ps = r := IsFall.one (falls_is z ps) h
theorem falls_perm {z : Str} {ps qs : List Pat} (h : ps.Perm qs) : falls z ps = falls z qs := falls_same fun _ _ => h.mem_iff
end Tx
namespace Tx
open PySem PySem.Spec L2 Pl
/-! joins -/
def jKind : Pt → Str
  | .w s => lkind s
  | .h k => k.str
def joinPt (p : Pt) (r : List Pt) : Pt := if (p :: r).all fun x => decide (x = p) then p
  else if ((p :: r).all fun x => decide (jKind x = jKind p)) then (if jKind p = "number" then .h .number else if jKind p = "name" then .h .name else .h .any) else .h .any
theorem jKind_len {p : Pt} : (jKind p).length ≤ 1000000 := by
  cases p with
  | w s =>
    show (lkind s).length ≤ _
    rcases kind_is s with e | e | e <;> rw [e] <;> decide
  | h k => cases k <;> decide
theorem all_bools {α : Type} (f : α → Bool) (xs : List α) : boolsOf (xs.map fun x => Pl.D.bool (f x)) = some (xs.map f) := by
  have e : xs.map (fun x => Pl.D.bool (f x)) = (xs.map f).map .bool := by rw [List.map_map]; rfl
  rw [e, boolsOf_map]
theorem all_id {α : Type} (f : α → Bool) (xs : List α) : (xs.map f).all id = xs.all f := by rw [List.all_map]; rfl
theorem any_id {α : Type} (f : α → Bool) (xs : List α) : (xs.map f).any id = xs.any f := by rw [List.any_map]; rfl
def C_joinPt : Con := fun os post => ∃ (p : Pt) (r : List Pt), os = [.sh (.list ((p :: r).map enP))] ∧ r.length ≤ 100000 ∧ (∀ x ∈ p :: r, OkPt x) ∧ post (.sh (enP (joinPt p r))) os
theorem at_hmap {α : Type} (f : α → Pl.D) (x : α) (l : List α) : atI ((x :: l).map f) 0 = some (f x) := at_head _ _
theorem h_joinPt : ∀ os post, C_joinPt os post → os.length = 1 ∧ r_joined_parts C_kind (dEnds [] os post) (start0 N_joined_parts.length os) := by
  rintro os post ⟨p, r, rfl, hl, hp, k⟩
  refine ⟨rfl, ?_⟩
  have hlen : ((p :: r).map enP).length ≤ sizeLine := by rw [List.length_map, List.length_cons]; exact Nat.le_of_lt (small (by omega))
  have hat := at_hmap enP p r
  generalize hds : (p :: r).map enP = ds at hlen hat k
  conv => whnf
  refine ⟨hlen, ?_⟩
  refine lc_mt id enP (fun x => some (.bool (decide (x = p)))) (fun _ => True) [some (.sh (.list ds)), none, none, none] ?_ _ (p :: r) _ (by rw [List.map_id, hds]) (fun _ _ => trivial) ?_
  · rintro d x hd _ R acc hR
    have hd : d = enP x := hd
    subst hd
    conv => whnf
    rw [hat]
    conv => whnf
    refine ⟨by rw [er_vw]; exact dL (d_P x), ?_⟩
    have e : (er (vw (enP x))).eqv (er (vw (enP p))) = decide (x = p) := by rw [er_vw, er_vw, eqv_P]
    conv => whnf
    rw [e]
    exact hR
  rw [fm_some, List.nil_append]
  conv => whnf
  rw [all_bools]
  conv => whnf
  rw [all_id]
  unfold joinPt at k
  cases ha : (p :: r).all fun x => decide (x = p) with
  | true =>
    rw [ha, if_pos rfl] at k
    conv => whnf
    rw [hat]
    exact k
  | false =>
  rw [ha] at k
  rw [if_neg (by decide)] at k
  conv => whnf
  refine loop_ind (fun dr ρ => ∃ done rest a2 a3, p :: r = done ++ rest ∧ dr = rest.map enP ∧ ρ = [some (.sh (.list ds)), some (.fl ((done.map jKind).map .str)), a2, a3]) ?_ ?_ _ _ ⟨[], p :: r, none, none, rfl, hds.symm, rfl⟩
  · rintro ρ ⟨done, rest, a2, a3, e1, e2, rfl⟩
    have e : rest = [] := List.map_eq_nil_iff.mp e2.symm
    subst e
    rw [List.append_nil] at e1
    subst e1
    have hat2 : atI (((p :: r).map jKind).map Pl.D.str) 0 = some (.str (jKind p)) := at_hmap _ _ _
    have hlen2 : (((p :: r).map jKind).map Pl.D.str).length ≤ sizeLine := by rw [List.length_map, List.length_map, List.length_cons]; exact Nat.le_of_lt (small (by omega))
    have hks : ((p :: r).map jKind).map Pl.D.str = (p :: r).map fun x => .str (jKind x) := by rw [List.map_map]; rfl
    generalize hk : ((p :: r).map jKind).map Pl.D.str = ks at hat2 hlen2 hks
    conv => whnf
    refine ⟨hlen2, ?_⟩
    refine lc_mt id (fun x => .str (jKind x)) (fun x => some (.bool (decide (jKind x = jKind p)))) (fun _ => True) [some (.sh (.list ds)), some (.sh (.nl ks)), a2, a3] ?_ ks (p :: r) _ (by rw [List.map_id]; exact hks) (fun _ _ => trivial) ?_
    · rintro d x hd _ R acc hR
      have hd : d = .str (jKind x) := hd
      subst hd
      conv => whnf
      rw [hat2]
      conv => whnf
      refine ⟨dL (d_str _), ?_⟩
      have e : (er (vw (.str (jKind x)))).eqv (er (vw (.str (jKind p)))) = decide (jKind x = jKind p) := by rw [er_vw, er_vw, eqv_str]
      conv => whnf
      rw [e]
      exact hR
    rw [fm_some, List.nil_append]
    conv => whnf
    rw [all_bools]
    conv => whnf
    rw [all_id]
    cases hb : (p :: r).all fun x => decide (jKind x = jKind p) with
    | false =>
      rw [hb, if_neg (by decide)] at k
      exact k
    | true =>
      rw [hb, if_pos rfl] at k
      conv => whnf
      rw [hat2]
      conv => whnf
      refine ⟨Nat.le_trans (Nat.min_le_right _ _) (by rw [er_vw]; exact d_str _), ?_⟩
      conv => whnf
      have e : inD false (er (vw (.str (jKind p)))) (([.str "number", .str "name"] : List Pl.D).map er) = (decide (("number" : Str) = jKind p) || (decide (("name" : Str) = jKind p))) := by
        show (((er (.str "number")).eqv (er (vw (.str (jKind p)))) || ((er (.str "name")).eqv (er (vw (.str (jKind p)))) || false))) = _
        rw [er_vw, eqv_str, eqv_str, Bool.or_false]
      rw [e]
      by_cases h1 : jKind p = "number"
      · rw [if_pos h1] at k
        rw [h1]
        conv => whnf
        rw [hat2, h1]
        exact k
      · rw [if_neg h1] at k
        by_cases h2 : jKind p = "name"
        · rw [if_pos h2] at k
          rw [h2]
          conv => whnf
          rw [hat2, h2]
          exact k
        · rw [if_neg h2] at k
          rw [decide_eq_false (fun h => h1 h.symm), decide_eq_false (fun h => h2 h.symm)]
          exact k
  · rintro d dr ρ R ⟨done, rest, a2, a3, e1, e2, rfl⟩ hR
    cases rest with
    | nil => cases e2
    | cons x rest =>
      rw [List.map_cons, List.cons.injEq] at e2
      obtain ⟨rfl, rfl⟩ := e2
      have hlen : done.length < 1000000 := by have := congrArg List.length e1; rw [List.length_append, List.length_cons, List.length_cons] at this; omega
      have fin : ∀ a3, R [some (.sh (.list ds)), some (.fl ((done.map jKind).map .str ++ [.str (jKind x)])), some (.sh (enP x)), a3] := fun a3 => hR _ ⟨done ++ [x], rest, _, _, by rw [e1, List.append_assoc]; rfl, rfl, by rw [List.map_append, List.map_append]; rfl⟩
      have hll : ((done.map jKind).map Pl.D.str).length < sizeLine := by rw [List.length_map, List.length_map]; exact small (by omega)
      have hx : OkPt x := hp x (by rw [e1]; simp)
      cases x with
      | w s =>
        conv => whnf
        refine ⟨dR (d_str _), ?_⟩
        conv => whnf
        refine ⟨s, rfl, Nat.le_trans hx.2.1 (Nat.le_of_lt (small (by omega))), ?_⟩
        conv => whnf
        exact ⟨hll, fin _⟩
      | h j =>
        conv => whnf
        refine ⟨dR (d_str _), ?_⟩
        cases j
        all_goals
          conv => whnf
          exact ⟨hll, fin _⟩
def hole : Pt := .h .any
def joinP : List Pat → Pat
  | [] => []
  | p :: r => (List.range p.length).map fun i => joinPt (p.getD i hole) (r.map fun q => q.getD i hole)
theorem pats_cons {ds : List Pl.D} {p : Pat} {r : List Pat} (h : pats ds (p :: r)) : ∃ d dr, ds = d :: dr ∧ vw d = enPat p ∧ pats dr r := by
  cases ds with
  | nil => cases h
  | cons d dr =>
    have h : vw d :: dr.map vw = enPat p :: r.map enPat := h
    rw [List.cons.injEq] at h
    exact ⟨d, dr, rfl, h.1, h.2⟩
theorem vw_pat {d : Pl.D} {p : Pat} (h : vw d = enPat p) : d = enPat p ∨ d = nwPat p := by
  cases d <;> simp [vw, enPat] at h
  · left; rw [h]; rfl
  · right; rw [h]; rfl
theorem pat_at {p : Pat} {i : Nat} (h : i < p.length) : atI (p.map enP) (i : Int) = some (enP (p.getD i hole)) := by
  unfold atI
  rw [ixN_in (by omega) (by rw [List.length_map]; omega)]
  show (p.map enP)[i]? = _
  rw [List.getElem?_map, List.getD_eq_getElem?_getD, List.getElem?_eq_getElem h]
  rfl
theorem getD_mem {p : Pat} {i : Nat} (h : i < p.length) : p.getD i hole ∈ p := by
  rw [List.getD_eq_getElem?_getD, List.getElem?_eq_getElem h]
  exact List.getElem_mem h
theorem rng_map (n : Nat) : rng 0 n = (List.range n).map fun i : Nat => .int (i : Int) := by
  unfold rng
  refine List.map_congr_left fun i _ => ?_
  rw [Int.zero_add]
def C_joined : Con := fun os post => ∃ (ds : List Pl.D) (p : Pat) (r : List Pat), os = [.sh (.list ds)] ∧ pats ds (p :: r) ∧ (∀ q ∈ p :: r, OkPat q) ∧ (∀ q ∈ r, q.length = p.length) ∧ r.length ≤ 10000 ∧ post (.fl ((joinP (p :: r)).map enP)) os
theorem h_joined : ∀ os post, C_joined os post → os.length = 1 ∧ r_joined C_joinPt (dEnds [] os post) (start0 N_joined.length os) := by
  rintro os post ⟨ds, p, r, rfl, hd, hp, hq, hl, k⟩
  refine ⟨rfl, ?_⟩
  obtain ⟨d, dr, rfl, hdp, hdr⟩ := pats_cons hd
  have hlen : (d :: dr).length ≤ sizeLine := by rw [len_of_map hd, List.length_cons]; exact Nat.le_of_lt (small (by omega))
  have hat : atI (d :: dr) 0 = some d := at_head _ _
  have e0 : (er (.list (d :: dr))).eqv (er (.nl [])) = false := eqv_nil (d :: dr)
  generalize hds : d :: dr = ds at hd hlen hat e0 k
  conv => whnf
  refine ⟨dR d_nil, ?_⟩
  conv => whnf
  rw [er_vw, er_vw, e0]
  conv => whnf
  refine ⟨hlen, ?_⟩
  refine lc_mt vw enPat (fun q : Pat => some (.bool false)) (fun q => q.length = p.length) [some (.sh (.list ds)), none, none] ?_ _ (p :: r) _ hd (by
    intro q hq'
    rcases List.mem_cons.mp hq' with rfl | h
    · rfl
    · exact hq q h) ?_
  · rintro x q hx hql R acc hR
    have e : (!((er (.int ((q.map enP).length : Nat))).eqv (er (.int ((p.map enP).length : Nat))))) = false := by
      rw [eqv_int, List.length_map, List.length_map, hql]; simp
    conv => whnf
    rw [hx]
    conv => whnf
    rw [hat]
    conv => whnf
    rw [hdp]
    conv => whnf
    refine ⟨dR (d_int _), ?_⟩
    conv => whnf
    rw [er_vw, er_vw, e]
    exact hR
  rw [fm_some, List.nil_append]
  conv => whnf
  rw [all_bools]
  conv => whnf
  rw [any_id]
  have e1 : ((p :: r).any fun _ => false) = false := by simp
  rw [e1]
  conv => whnf
  rw [hat]
  conv => whnf
  rw [hdp]
  conv => whnf
  have okp : p.length ≤ 1000 := (hp p (List.mem_cons_self ..)).1
  refine ⟨by omega, by rw [List.length_map]; omega, ?_⟩
  have er : rng 0 (((p.map enP).length : Nat) : Int).toNat = (List.range p.length).map fun i : Nat => .int (i : Int) := by rw [List.length_map, rng_map]; rfl
  refine ⟨?_, ?_⟩
  · show (rng 0 (((p.map enP).length : Nat) : Int).toNat).length ≤ _
    rw [er, List.length_map, List.length_range]; exact Nat.le_of_lt (small (by omega))
  refine lc_mt id (fun i : Nat => .int (i : Int)) (fun i => some (enP (joinPt (p.getD i hole) (r.map fun q => q.getD i hole)))) (fun i => i < p.length) [some (.sh (.list ds)), none, none] ?_ _ (List.range p.length) _ (by rw [List.map_id]; exact er) (fun i hi => List.mem_range.mp hi) ?_
  · rintro x i hx hi R acc hR
    have hx : x = .int (i : Int) := hx
    subst hx
    conv => whnf
    refine ⟨hlen, ?_⟩
    refine lc_mt vw enPat (fun q => some (enP (q.getD i hole))) (fun q => q.length = p.length) [some (.sh (.list ds)), none, some (.sh (.int (i : Int)))] ?_ _ (p :: r) _ hd (by
      intro q hq'
      rcases List.mem_cons.mp hq' with rfl | h
      · rfl
      · exact hq q h) ?_
    · rintro y q hy hql R2 acc2 hR2
      conv => whnf
      rw [hy]
      conv => whnf
      rw [pat_at (by omega)]
      exact hR2
    rw [fm_some, List.nil_append]
    conv => whnf
    refine ⟨p.getD i hole, r.map fun q => q.getD i hole, ?_, by rw [List.length_map]; omega, ?_, ?_⟩
    · rw [← List.map_cons (f := fun q : Pat => q.getD i hole), List.map_map]; rfl
    · intro z hz
      rw [← List.map_cons (f := fun q : Pat => q.getD i hole)] at hz
      obtain ⟨q, hq', rfl⟩ := List.mem_map.mp hz
      refine (hp q hq').2 _ (getD_mem ?_)
      rcases List.mem_cons.mp hq' with rfl | h
      · exact hi
      · rw [hq q h]; exact hi
    · exact hR
  rw [fm_some, List.nil_append]
  have e3 : (joinP (p :: r)).map enP = (List.range p.length).map fun i => enP (joinPt (p.getD i hole) (r.map fun q => q.getD i hole)) := by
    unfold joinP
    rw [List.map_map]; rfl
  rw [e3] at k
  exact k
end Tx
namespace Tx
open PySem PySem.Spec L2 Pl
/-! narrowest, falls_under -/
theorem er_ints (xs : List Int) : er (.list (xs.map .int)) = PySem.W.Datum.toD xs := er_map (f := fun i : Int => Pl.D.int i) (g := fun i => i) (fun _ => rfl) xs |>.trans (by rw [List.map_id'])
open PySem.W in
theorem lt_ints (xs ys : List Int) : dataLt (er (.list (xs.map .int))) (er (.list (ys.map .int))) = DatumOrd.lt xs ys := by rw [er_ints, er_ints, DatumOrd.lt_eq]
open PySem.W in
theorem ok_ints (xs ys : List Int) : alike (er (.list (xs.map .int))) (er (.list (ys.map .int))) = true ∧ er (.list (xs.map .int)) ≠ .none ∧ min (er (.list (xs.map .int))).depth (er (.list (ys.map .int))).depth ≤ 64 := by
  rw [er_ints, er_ints]
  exact ⟨DatumOrd.alike _ _, DatumOrd.notNone _, dL (Nat.le_trans (Datum.depth_le _) (by decide))⟩
def C_narrow : Con := fun os post => ∃ (z : Str) (ds : List Pl.D) (ps : List Pat), os = [.sh (.str z), .sh (.list ds)] ∧ z.length ≤ 100000 ∧ pats ds ps ∧ (∀ p ∈ ps, OkPat p) ∧ ps.length ≤ 100000 ∧
  ∀ d, (match narrow z none ps with
    | none => d = .none
    | some m => d ∈ ds ∧ vw d = enPat m) → post (.sh d) os
theorem h_narrow : ∀ os post, C_narrow os post → os.length = 2 ∧ r_narrowest C_fits C_loo (dEnds [] os post) (start0 N_narrowest.length os) := by
  rintro os post ⟨z, ds, ps, rfl, hz, hd, hp, hl, k⟩
  refine ⟨rfl, ?_⟩
  conv => whnf
  refine loop_ind (fun dr ρ => ∃ pr b db a3, pats dr pr ∧ (∀ x ∈ dr, x ∈ ds) ∧ narrow z none ps = narrow z b pr ∧ (match b with
    | none => db = .none
    | some m => db ∈ ds ∧ vw db = enPat m) ∧ (∀ p ∈ pr, OkPat p) ∧ (∀ c, b = some c → OkPat c) ∧ ρ = [some (.sh (.str z)), some (.sh (.list ds)), some (.sh db), a3]) ?_ ?_ _ _ ⟨ps, none, .none, none, hd, fun _ h => h, rfl, rfl, hp, fun _ e => (by cases e), rfl⟩
  · rintro ρ ⟨pr, b, db, a3, e1, e2, e3, e4, e5, e6, rfl⟩
    have e : pr = [] := List.map_eq_nil_iff.mp e1.symm
    subst e
    refine k db ?_
    rw [e3]; exact e4
  · rintro d dr ρ R ⟨pr, b, db, a3, e1, e2, e3, e4, e5, e6, rfl⟩ hR
    cases pr with
    | nil => cases e1
    | cons p pr =>
      have e1 : vw d :: dr.map vw = enPat p :: pr.map enPat := e1
      rw [List.cons.injEq] at e1
      obtain ⟨hdp, e1⟩ := e1
      have okp := e5 p (List.mem_cons_self ..)
      have e3 : narrow z none ps = narrow z (if nbetter z b p = true then some p else b) pr := e3
      unfold nbetter at e3
      have no : narrow z none ps = narrow z b pr → R [some (.sh (.str z)), some (.sh (.list ds)), some (.sh db), some (.sh d)] := fun e => hR _ ⟨pr, b, db, _, e1, fun x hx => e2 x (List.mem_cons_of_mem _ hx), e, e4, fun x hx => e5 x (List.mem_cons_of_mem _ hx), e6, rfl⟩
      have yes : narrow z none ps = narrow z (some p) pr → R [some (.sh (.str z)), some (.sh (.list ds)), some (.sh d), some (.sh d)] := fun e => hR _ ⟨pr, some p, d, _, e1, fun x hx => e2 x (List.mem_cons_of_mem _ hx), e, ⟨e2 d (List.mem_cons_self ..), hdp⟩, fun x hx => e5 x (List.mem_cons_of_mem _ hx), fun c hc => by cases hc; exact okp, rfl⟩
      conv => whnf
      refine ⟨p, z, by rw [hdp]; rfl, hz, ?_⟩
      conv => whnf
      cases hf : fitsP p z with
      | false =>
        rw [hf] at e3
        exact no e3
      | true =>
        rw [hf] at e3
        conv => whnf
        cases b with
        | none =>
          have e4 : db = .none := e4
          subst e4
          exact yes e3
        | some c =>
          have e4 : db ∈ ds ∧ vw db = enPat c := e4
          have okc := e6 c rfl
          have e3 : narrow z none ps = narrow z (if lolt p c = true then some p else some c) pr := e3
          have fin : (if lolt p c = true then R [some (.sh (.str z)), some (.sh (.list ds)), some (.sh d), some (.sh d)] else R [some (.sh (.str z)), some (.sh (.list ds)), some (.sh db), some (.sh d)]) := by
            cases hlo : lolt p c with
            | true => rw [hlo] at e3; exact yes e3
            | false => rw [hlo] at e3; exact no e3
          have hmain : ∀ (db' : Pl.D), vw db' = enPat c → (db' = enPat c ∨ db' = nwPat c) := fun _ h => vw_pat h
          rcases vw_pat e4.2 with rfl | rfl
          all_goals
            conv => whnf
            refine ⟨p, by rw [hdp]; rfl, okp, ?_⟩
            conv => whnf
            refine ⟨c, rfl, okc, ?_⟩
            conv => whnf
            refine ⟨ok_ints _ _, ?_⟩
            conv => whnf
            have e7 := lt_ints (loo p) (loo c)
            have e8 : PySem.W.DatumOrd.lt (loo p) (loo c) = lolt p c := rfl
            rw [er_vw, er_vw]
            rw [show er (Pl.D.nl ((loo p).map .int)) = er (.list ((loo p).map .int)) from rfl, show er (Pl.D.nl ((loo c).map .int)) = er (.list ((loo c).map .int)) from rfl, e7, e8]
            cases hlo : lolt p c with
            | true => rw [hlo] at fin; exact fin
            | false => rw [hlo] at fin; exact fin
def enF : Option Pat → Pl.D
  | none => .none
  | some m => nwPat m
def C_falls : Con := fun os post => ∃ (z : Str) (ds : List Pl.D) (ps : List Pat), os = [.sh (.str z), .sh (.list ds)] ∧ z.length ≤ 100000 ∧ pats ds ps ∧ (∀ p ∈ ps, OkPat p) ∧ ps.length ≤ 100000 ∧ post (.sh (enF (falls z ps))) os
theorem h_falls : ∀ os post, C_falls os post → os.length = 2 ∧ r_falls_under C_ordered C_narrow (dEnds [] os post) (start0 N_falls_under.length os) := by
  rintro os post ⟨z, ds, ps, rfl, hz, hd, hp, hl, k⟩
  refine ⟨rfl, ?_⟩
  conv => whnf
  refine ⟨ds, ps, rfl, hd, hp, hl, ?_⟩
  conv => whnf
  have hin : ∀ p ∈ inOrder ps, OkPat p := fun p h => hp p ((inOrder_perm ps).mem_iff.mp h)
  refine ⟨z, (inOrder ps).map nwPat, inOrder ps, rfl, hz, by unfold pats; rw [List.map_map]; rfl, hin, by rw [(inOrder_perm ps).length_eq]; exact hl, fun d h => ?_⟩
  have e : d = enF (falls z ps) := by
    unfold falls
    revert h
    cases narrow z none (inOrder ps) with
    | none => exact fun h => h
    | some m =>
      rintro ⟨h1, h2⟩
      obtain ⟨q, _, rfl⟩ := List.mem_map.mp h1
      have : q.map enP = m.map enP := by
        have h2 : Pl.D.list (q.map enP) = .list (m.map enP) := h2
        injection h2
      exact congrArg Pl.D.nl this
  rw [e]
  exact k
end Tx
/-! patterns as data, least and greatest ints, ends of a law -/
namespace Pl
open PySem PySem.Spec L2
theorem foldl_max : ∀ (ns : List Int) (n : Int), n ≤ ns.foldl max n ∧ ∀ m ∈ ns, m ≤ ns.foldl max n
  | [], n => ⟨Int.le_refl _, by simp⟩
  | k :: ns, n => by
    have h := foldl_max ns (max n k)
    rw [List.foldl_cons]
    refine ⟨by omega, fun m hm => ?_⟩
    rcases List.mem_cons.mp hm with rfl | hm
    · omega
    · exact h.2 m hm
theorem foldl_min : ∀ (ns : List Int) (n : Int), ns.foldl min n ≤ n ∧ ∀ m ∈ ns, ns.foldl min n ≤ m
  | [], n => ⟨Int.le_refl _, by simp⟩
  | k :: ns, n => by
    have h := foldl_min ns (min n k)
    rw [List.foldl_cons]
    refine ⟨by omega, fun m hm => ?_⟩
    rcases List.mem_cons.mp hm with rfl | hm
    · omega
    · exact h.2 m hm
open PySem.W in
theorem ints_alike (ns : List Int) : AlikeAll ((ns.map D.int).map er) ∧ PyData.depthAll ((ns.map D.int).map er) ≤ 64 := by
  have e : (ns.map D.int).map er = ns.map Datum.toD := by rw [List.map_map]; rfl
  rw [e]
  exact ⟨alikeAll_datum ns, Nat.le_trans (depthAll_map ns) (by decide)⟩
theorem max_ints {n : Int} {ns : List Int} {Q : Pl.D → Prop} (h : ∀ m, m ∈ n :: ns → (∀ k ∈ n :: ns, k ≤ m) → Q (.int m)) : PySem.W.AlikeAll (er (D.int n) :: (ns.map D.int).map er) ∧ PyData.depthAll (er (D.int n) :: (ns.map D.int).map er) ≤ 64 ∧ ∀ x ∈ D.int n :: ns.map D.int, er x = PySem.W.maxD (er (D.int n)) ((ns.map D.int).map er) → Q x := by
  have z := ints_alike (n :: ns)
  refine ⟨z.1, z.2, fun x hx e => ?_⟩
  have hx : x ∈ (n :: ns).map D.int := hx
  obtain ⟨m, hm, rfl⟩ := List.mem_map.mp hx
  refine h m hm fun k hk => ?_
  have e1 : (ns.map D.int).map er = ns.map PyData.int := by rw [List.map_map]; rfl
  have e : PyData.int m = PySem.W.maxD (.int n) ((ns.map D.int).map er) := e
  rw [e1, PySem.W.maxD_ints] at e
  injection e with e
  have f := foldl_max ns n
  rcases List.mem_cons.mp hk with rfl | hk
  · omega
  · have := f.2 k hk; omega
theorem min_ints {n : Int} {ns : List Int} {Q : Pl.D → Prop} (h : ∀ m, m ∈ n :: ns → (∀ k ∈ n :: ns, m ≤ k) → Q (.int m)) : PySem.W.AlikeAll (er (D.int n) :: (ns.map D.int).map er) ∧ PyData.depthAll (er (D.int n) :: (ns.map D.int).map er) ≤ 64 ∧ ∀ x ∈ D.int n :: ns.map D.int, er x = PySem.W.minD (er (D.int n)) ((ns.map D.int).map er) → Q x := by
  have z := ints_alike (n :: ns)
  refine ⟨z.1, z.2, fun x hx e => ?_⟩
  have hx : x ∈ (n :: ns).map D.int := hx
  obtain ⟨m, hm, rfl⟩ := List.mem_map.mp hx
  refine h m hm fun k hk => ?_
  have e1 : (ns.map D.int).map er = ns.map PyData.int := by rw [List.map_map]; rfl
  have e : PyData.int m = PySem.W.minD (.int n) ((ns.map D.int).map er) := e
  rw [e1, PySem.W.minD_ints] at e
  injection e with e
  have f := foldl_min ns n
  rcases List.mem_cons.mp hk with rfl | hk
  · omega
  · have := f.2 k hk; omega
theorem zSeq_in {t u : TPS} {D : PEnds} {ρ : Ev} (h : t { D with nx := u D } ρ) : zSeq t u D ρ := h
theorem zFor_of {ti : TPi} {g : TPg} {tb : TPS} {D : PEnds} {ρ ρ1 : Ev} {ds : List Pl.D} (h : ∀ K : List Pl.D → Ev → Prop, K ds ρ1 → ti ρ K) (q : loopR g tb D.rt D.nx ds ρ1) : zFor ti g tb D ρ := h (fun ds ρ1 => loopR g tb D.rt D.nx ds ρ1) q
end Pl
namespace Tx
open PySem PySem.Spec L2 Pl
theorem er_pat {d : Pl.D} {p : Pat} (h : vw d = enPat p) : er d = PySem.W.Datum.toD (p.map ec) := by
  rw [← er_vw, h]
  exact er_map (g := ec) er_P p
theorem er_patsD {ds : List Pl.D} {ps : List Pat} (h : pats ds ps) : er (.list ds) = PySem.W.Datum.toD (ps.map fun p => p.map ec) := by
  show PyData.list (erAll ds) = PyData.list ((ps.map fun p => p.map ec).map PySem.W.Datum.toD)
  rw [erAll_map]
  have e : ds.map er = (ds.map vw).map er := by rw [List.map_map]; exact List.map_congr_left fun d _ => (er_vw d).symm
  rw [e, h, List.map_map, List.map_map]
  congr 1
  exact List.map_congr_left fun p _ => er_pat (d := enPat p) rfl
theorem dec_pat (p q : Pat) : decide (p.map ec = q.map ec) = decide (p = q) := decide_eq_decide.mpr ⟨map_inj fun _ _ => ecP_inj, fun h => by rw [h]⟩
theorem dec_pats (ps qs : List Pat) : decide ((ps.map fun p => p.map ec) = qs.map fun p => p.map ec) = decide (ps = qs) := decide_eq_decide.mpr ⟨map_inj fun _ _ => map_inj fun _ _ => ecP_inj, fun h => by rw [h]⟩
theorem eqv_pat {d e : Pl.D} {p q : Pat} (h : vw d = enPat p) (k : vw e = enPat q) : (er d).eqv (er e) = decide (p = q) := by
  rw [er_pat h, er_pat k, PySem.W.Datum.eqv, dec_pat]
theorem eqv_patsD {ds es : List Pl.D} {ps qs : List Pat} (h : pats ds ps) (k : pats es qs) : (er (.list ds)).eqv (er (.list es)) = decide (ps = qs) := by
  rw [er_patsD h, er_patsD k, PySem.W.Datum.eqv, dec_pats]
theorem d_pat {d : Pl.D} {p : Pat} (h : vw d = enPat p) : (er d).depth ≤ 64 := by rw [er_pat h]; exact Nat.le_trans (PySem.W.Datum.depth_le _) (by decide)
theorem d_pats {ds : List Pl.D} {ps : List Pat} (h : pats ds ps) : (er (.list ds)).depth ≤ 64 := by rw [er_patsD h]; exact Nat.le_trans (PySem.W.Datum.depth_le _) (by decide)
theorem pats_nw (ps : List Pat) : pats (ps.map nwPat) ps := by
  unfold pats
  rw [List.map_map]; rfl
theorem pats_en (ps : List Pat) : pats (ps.map enPat) ps := by
  unfold pats
  rw [List.map_map]; rfl
theorem pats_app {ds es : List Pl.D} {ps qs : List Pat} (h : pats ds ps) (k : pats es qs) : pats (ds ++ es) (ps ++ qs) := by
  unfold pats at *
  rw [List.map_append, List.map_append, h, k]
theorem pats_rev {ds : List Pl.D} {ps : List Pat} (h : pats ds ps) : pats ds.reverse ps.reverse := by
  unfold pats at *
  rw [List.map_reverse, List.map_reverse, h]
theorem eqv_enF (r s : Option Pat) : (er (enF r)).eqv (er (enF s)) = decide (r = s) := by
  cases r with
  | none => cases s <;> rfl
  | some p =>
    cases s with
    | none =>
      show (er (nwPat p)).eqv (er .none) = false
      rw [er_pat (d := nwPat p) rfl]; rfl
    | some q =>
      show (er (nwPat p)).eqv (er (nwPat q)) = _
      rw [eqv_pat (p := p) (q := q) rfl rfl]
      exact decide_eq_decide.mpr ⟨fun h => by rw [h], fun h => by injection h⟩
theorem d_enF (r : Option Pat) : (er (enF r)).depth ≤ 64 := by
  cases r with
  | none => exact Nat.zero_le _
  | some p => exact d_pat (d := nwPat p) rfl
/-! within and loose -/
theorem lkind_ne (w : Str) (k : Hk) : fitsPt (.h k) w = true → looPt (.w w) < looPt (.h k) := fun _ => by cases k <;> (show (0 : Int) < _; decide)
theorem in_loo {a b : Pt} (h : inPt a b = true) : looPt a ≤ looPt b ∧ (looPt a = looPt b → a = b) := by
  cases a with
  | w s =>
    cases b with
    | w t =>
      have h : decide (t = s) = true := h
      rw [of_decide_eq_true h]
      exact ⟨Int.le_refl _, fun _ => rfl⟩
    | h k =>
      have := lkind_ne s k h
      exact ⟨Int.le_of_lt this, fun e => by omega⟩
  | h j =>
    have h : (decide (b = .h j) || decide (b = .h .any)) = true := h
    rcases Bool.or_eq_true_iff.mp h with h | h
    · rw [of_decide_eq_true h]
      exact ⟨Int.le_refl _, fun _ => rfl⟩
    · rw [of_decide_eq_true h]
      cases j
      · exact ⟨by decide, fun e => absurd e (by decide)⟩
      · exact ⟨by decide, fun e => absurd e (by decide)⟩
      · exact ⟨by decide, fun _ => rfl⟩
def dif (p q : Pat) : List Int := (p.zip q).map fun x => looPt x.1 - looPt x.2
theorem dif_le : ∀ {p q : Pat}, inAll p q = true → ∀ i ∈ dif p q, i ≤ 0
  | [], _, _, i, hi => by simp [dif] at hi
  | _ :: _, [], _, i, hi => by simp [dif] at hi
  | a :: p, b :: q, h, i, hi => by
    have h : (inPt a b && inAll p q) = true := h
    rw [Bool.and_eq_true] at h
    have hi : i ∈ (looPt a - looPt b) :: dif p q := hi
    rcases List.mem_cons.mp hi with rfl | hi
    · have := (in_loo h.1).1; omega
    · exact dif_le h.2 i hi
theorem dif_eq : ∀ {p q : Pat}, inAll p q = true → p.length = q.length → (∀ i ∈ dif p q, 0 ≤ i) → p = q
  | [], [], _, _, _ => rfl
  | [], _ :: _, _, e, _ => by cases e
  | _ :: _, [], _, e, _ => by cases e
  | a :: p, b :: q, h, e, k => by
    have h : (inPt a b && inAll p q) = true := h
    rw [Bool.and_eq_true] at h
    have k : ∀ i ∈ (looPt a - looPt b) :: dif p q, 0 ≤ i := k
    have h1 := in_loo h.1
    have k1 := k _ (List.mem_cons_self ..)
    rw [h1.2 (by omega), dif_eq h.2 (by simpa using e) fun i hi => k i (List.mem_cons_of_mem _ hi)]
theorem dif_self : ∀ (p : Pat), ∀ i ∈ dif p p, i = 0
  | [], i, hi => by simp [dif] at hi
  | a :: p, i, hi => by
    have hi : i ∈ (looPt a - looPt a) :: dif p p := hi
    rcases List.mem_cons.mp hi with rfl | hi
    · omega
    · exact dif_self p i hi
open PySem.W in
/-- what is within another one and unlike is less loose -/
theorem in_lolt : ∀ {p q : Pat}, inAll p q = true → p.length = q.length → p ≠ q → lolt p q = true
  | [], [], _, _, n => absurd rfl n
  | [], _ :: _, _, e, _ => by cases e
  | _ :: _, [], _, e, _ => by cases e
  | a :: p, b :: q, h, e, n => by
    have h : (inPt a b && inAll p q) = true := h
    rw [Bool.and_eq_true] at h
    have h1 := in_loo h.1
    show (if looPt a = looPt b then listLt (loo p) (loo q) else decide (looPt a < looPt b)) = true
    by_cases z : looPt a = looPt b
    · rw [if_pos z]
      refine in_lolt h.2 (by simpa using e) fun k => n ?_
      rw [h1.2 z, k]
    · rw [if_neg z]
      exact decide_eq_true (by omega)
theorem inPat_iff {p q : Pat} : inPat p q = true ↔ p.length = q.length ∧ inAll p q = true := by
  unfold inPat
  rw [Bool.and_eq_true, decide_eq_true_iff]
end Tx
namespace Tx
open PySem PySem.Spec L2 Pl
/-! joins fit -/
theorem joinPt_ok {p : Pt} {r : List Pt} (h : OkPt p) : OkPt (joinPt p r) := by
  unfold joinPt
  split
  · exact h
  · split
    · split
      · trivial
      · split <;> trivial
    · trivial
theorem joinPt_fits {p : Pt} {r : List Pt} {x : Pt} {w : Str} (hx : x ∈ p :: r) (h : fitsPt x w = true) : fitsPt (joinPt p r) w = true := by
  unfold joinPt
  split
  · rename_i e
    have := List.all_eq_true.mp e x hx
    rw [← of_decide_eq_true this]; exact h
  · split
    · rename_i e
      have e := of_decide_eq_true (List.all_eq_true.mp e x hx)
      have key : ∀ k : Hk, k ≠ .any → jKind x = k.str → fitsPt (.h k) w = true := by
        intro k hk ek
        cases x with
        | w s =>
          have h : decide (s = w) = true := h
          have h := of_decide_eq_true h
          subst h
          show (decide (k = .any) || decide (k.str = lkind s)) = true
          rw [Bool.or_eq_true]
          exact .inr (decide_eq_true ek.symm)
        | h j =>
          have ek : j.str = k.str := ek
          have : j = k := by cases j <;> cases k <;> first | rfl | (exfalso; revert ek; decide)
          subst this; exact h
      split
      · rename_i e2
        exact key .number (by decide) (by rw [e, e2]; rfl)
      · split
        · rename_i e2
          exact key .name (by decide) (by rw [e, e2]; rfl)
        · rfl
    · rfl
theorem fitsWs_iff : ∀ {p : Pat} {ws : List Str}, fitsWs p ws = true ↔ p.length = ws.length ∧ ∀ i, i < p.length → fitsPt (p.getD i hole) (ws.getD i "") = true
  | [], [] => ⟨fun _ => ⟨rfl, fun i h => by simp at h⟩, fun _ => rfl⟩
  | [], _ :: _ => ⟨fun h => (by cases h), fun h => (by cases h.1)⟩
  | _ :: _, [] => ⟨fun h => (by cases h), fun h => (by cases h.1)⟩
  | p :: ps, w :: ws => by
    show (fitsPt p w && fitsWs ps ws) = true ↔ _
    rw [Bool.and_eq_true, fitsWs_iff]
    constructor
    · rintro ⟨h1, h2, h3⟩
      refine ⟨by rw [List.length_cons, List.length_cons, h2], fun i hi => ?_⟩
      cases i with
      | zero => exact h1
      | succ i => exact h3 i (by simpa using hi)
    · rintro ⟨h1, h2⟩
      exact ⟨h2 0 (by simp), by simpa using h1, fun i hi => h2 (i + 1) (by simpa using hi)⟩
theorem joinP_len (p : Pat) (r : List Pat) : (joinP (p :: r)).length = p.length := by
  unfold joinP
  rw [List.length_map, List.length_range]
theorem joinP_at (p : Pat) (r : List Pat) {i : Nat} (h : i < p.length) : (joinP (p :: r)).getD i hole = joinPt (p.getD i hole) (r.map fun q => q.getD i hole) := by
  unfold joinP
  rw [List.getD_eq_getElem?_getD, List.getElem?_map, List.getElem?_range h]; rfl
theorem joinP_ok {p : Pat} {r : List Pat} (h : OkPat p) : OkPat (joinP (p :: r)) := by
  refine ⟨by rw [joinP_len]; exact h.1, fun x hx => ?_⟩
  unfold joinP at hx
  obtain ⟨i, hi, rfl⟩ := List.mem_map.mp hx
  exact joinPt_ok (h.2 _ (getD_mem (List.mem_range.mp hi)))
theorem joinP_fitsWs {p : Pat} {r : List Pat} (hl : ∀ q ∈ r, q.length = p.length) {x : Pat} {ws : List Str} (hx : x ∈ p :: r) (h : fitsWs x ws = true) : fitsWs (joinP (p :: r)) ws = true := by
  rw [fitsWs_iff] at h ⊢
  have hxl : x.length = p.length := by
    rcases List.mem_cons.mp hx with rfl | hx
    · rfl
    · exact hl x hx
  refine ⟨by rw [joinP_len, ← hxl]; exact h.1, fun i hi => ?_⟩
  rw [joinP_len] at hi
  rw [joinP_at p r hi]
  refine joinPt_fits (x := x.getD i hole) ?_ (h.2 i (by omega))
  rw [← List.map_cons (f := fun q : Pat => q.getD i hole)]
  exact List.mem_map_of_mem (f := fun q : Pat => q.getD i hole) hx
/-! a line as a pattern -/
def ofWs (ws : List Str) : Pat := ws.map .w
theorem ofWs_fits : ∀ ws : List Str, fitsWs (ofWs ws) ws = true
  | [] => rfl
  | w :: ws => by
    show (decide (w = w) && fitsWs (ofWs ws) ws) = true
    rw [ofWs_fits ws]; simp
theorem ofWs_in : ∀ {ws : List Str} {q : Pat}, fitsWs q ws = true → inAll (ofWs ws) q = true
  | [], q, _ => rfl
  | _ :: _, [], h => by cases h
  | w :: ws, x :: q, h => by
    have h : (fitsPt x w && fitsWs q ws) = true := h
    rw [Bool.and_eq_true] at h
    show (fitsPt x w && inAll (ofWs ws) q) = true
    rw [h.1, ofWs_in h.2]; rfl
theorem ofWs_least {ws : List Str} {q : Pat} (h : fitsWs q ws = true) : flt q (ofWs ws) = false := by
  by_cases e : ofWs ws = q
  · subst e; exact flt_self _
  · refine flt_asym (flt_lo (in_lolt (ofWs_in h) ?_ e))
    rw [fitsWs_len h]
    exact List.length_map ..
theorem ofWs_ok {ws : List Str} (hl : ws.length ≤ 1000) (h : ∀ w ∈ ws, IsWd w) : OkPat (ofWs ws) := ⟨by unfold ofWs; rw [List.length_map]; exact hl, fun x hx => by
  obtain ⟨w, hw, rfl⟩ := List.mem_map.mp hx
  exact h w hw⟩
end Tx
/-! words each once, how often; dicts of them; groups: maths -/
namespace Pl
open PySem PySem.Spec L2
section
variable {α : Type} [DecidableEq α]
def nubS (acc : List α) (x : α) : List α := if x ∈ acc then acc else acc ++ [x]
/-- each once, as first met -/
def nubF (l : List α) : List α := l.foldl nubS []
theorem nubF_snoc (l : List α) (x : α) : nubF (l ++ [x]) = nubS (nubF l) x := by unfold nubF; rw [List.foldl_append]; rfl
theorem nub_fold (l : List α) : ∀ acc : List α, acc.Nodup → (l.foldl nubS acc).Nodup ∧ ∀ x, x ∈ l.foldl nubS acc ↔ x ∈ acc ∨ x ∈ l := by
  induction l with
  | nil => intro acc h; exact ⟨h, fun x => by simp⟩
  | cons y l ih =>
    intro acc h
    rw [List.foldl_cons]
    have h2 : (nubS acc y).Nodup := by
      unfold nubS
      split
      · exact h
      · rename_i n
        rw [List.nodup_append]
        exact ⟨h, by simp, fun a ha b hb => by rw [List.mem_singleton.mp hb]; rintro rfl; exact n ha⟩
    have h3 : ∀ x, x ∈ nubS acc y ↔ x ∈ acc ∨ x = y := fun x => by
      unfold nubS
      split
      · rename_i n
        exact ⟨.inl, fun z => z.elim id fun e => by rw [e]; exact n⟩
      · rw [List.mem_append, List.mem_singleton]
    obtain ⟨i1, i2⟩ := ih _ h2
    refine ⟨i1, fun x => ?_⟩
    rw [i2, h3, List.mem_cons, or_assoc]
theorem nubF_nodup (l : List α) : (nubF l).Nodup := (nub_fold l [] List.nodup_nil).1
theorem mem_nubF {l : List α} {x : α} : x ∈ nubF l ↔ x ∈ l := by
  rw [show x ∈ nubF l ↔ _ from (nub_fold l [] List.nodup_nil).2 x]; simp
theorem perm_of_mem {l m : List α} (hl : l.Nodup) (hm : m.Nodup) (h : ∀ x, x ∈ l ↔ x ∈ m) : l.Perm m := (List.perm_ext_iff_of_nodup hl hm).mpr h
theorem nubF_perm {l m : List α} (h : l.Perm m) : (nubF l).Perm (nubF m) := perm_of_mem (nubF_nodup l) (nubF_nodup m) fun x => by rw [mem_nubF, mem_nubF, h.mem_iff]
theorem nubF_len (l : List α) : (nubF l).length ≤ l.length := by
  have : ∀ (l acc : List α), (l.foldl nubS acc).length ≤ acc.length + l.length := by
    intro l
    induction l with
    | nil => intro acc; simp
    | cons y l ih =>
      intro acc
      have := ih (nubS acc y)
      have h2 : (nubS acc y).length ≤ acc.length + 1 := by
        unfold nubS
        split
        · omega
        · rw [List.length_append, List.length_singleton]; exact Nat.le_refl _
      rw [List.foldl_cons, List.length_cons]; omega
  have := this l []
  rw [List.length_nil] at this
  unfold nubF; omega
end
/-! dicts -/
theorem hasK_mem (ks : List Key) (k : Key) : hasK ks k = true ↔ k ∈ ks := by
  unfold hasK
  rw [List.any_eq_true]
  exact ⟨fun ⟨x, hx, e⟩ => by rw [← of_decide_eq_true e]; exact hx, fun h => ⟨k, h, decide_eq_true rfl⟩⟩
theorem put_map {β : Type} [DecidableEq β] (key : β → Key) (inj : ∀ a b, key a = key b → a = b) (xs : List β) (f g : β → D) (x : β) (hg : ∀ y ∈ xs, y ≠ x → g y = f y) :
    dputK (xs.map key) (key x) = (nubS xs x).map key ∧ dputD (xs.map key) (xs.map f) (key x) (g x) = (nubS xs x).map g := by
  have hm : hasK (xs.map key) (key x) = true ↔ x ∈ xs := by
    rw [hasK_mem, List.mem_map]
    exact ⟨fun ⟨y, hy, e⟩ => by rw [← inj _ _ e]; exact hy, fun h => ⟨x, h, rfl⟩⟩
  unfold dputK dputD nubS
  by_cases h : x ∈ xs
  · rw [if_pos (hm.mpr h), if_pos h, if_pos (hm.mpr h)]
    refine ⟨rfl, ?_⟩
    have : ∀ l : List β, (∀ y ∈ l, y ≠ x → g y = f y) → List.zipWith (fun k' d' => if k' = key x then g x else d') (l.map key) (l.map f) = l.map g := by
      intro l
      induction l with
      | nil => intro _; rfl
      | cons y l ih =>
        intro hl
        rw [List.map_cons, List.map_cons, List.map_cons, List.zipWith_cons_cons, ih fun z hz => hl z (List.mem_cons_of_mem _ hz)]
        congr 1
        by_cases e : y = x
        · rw [e, if_pos rfl]
        · rw [if_neg fun z => e (inj _ _ z), hl y (List.mem_cons_self ..) e]
    exact this xs hg
  · rw [if_neg fun z => h (hm.mp z), if_neg h, if_neg fun z => h (hm.mp z), List.map_append, List.map_append]
    refine ⟨rfl, ?_⟩
    congr 1
    exact List.map_congr_left fun y hy => (hg y hy fun e => h (e ▸ hy)).symm
theorem assoc_map {β : Type} [DecidableEq β] (key : β → Key) (inj : ∀ a b, key a = key b → a = b) (f : β → D) (x : β) : ∀ xs : List β, assoc (xs.map key) (xs.map f) (key x) = if x ∈ xs then some (f x) else none
  | [] => rfl
  | y :: xs => by
    show (if key y = key x then some (f y) else assoc (xs.map key) (xs.map f) (key x)) = _
    rw [assoc_map key inj f x xs]
    by_cases e : y = x
    · rw [e, if_pos rfl, if_pos (List.mem_cons_self ..)]
    · rw [if_neg fun z => e (inj _ _ z)]
      by_cases h : x ∈ xs
      · rw [if_pos h, if_pos (List.mem_cons_of_mem _ h)]
      · rw [if_neg h, if_neg fun z => (List.mem_cons.mp z).elim (fun q => e q.symm) h]
theorem inr_inj (a b : Str) (h : (Sum.inr a : Key) = .inr b) : a = b := by cases h; rfl
theorem inl_inj (a b : Int) (h : (Sum.inl a : Key) = .inl b) : a = b := by cases h; rfl
end Pl
namespace Tx
open PySem PySem.Spec L2 Pl
abbrev Row := List Str
def wAt (r : Row) (i : Nat) : Str := r.getD i ""
def colW (rows : List Row) (i : Nat) : List Str := rows.map fun r => wAt r i
theorem colW_perm {rows rows' : List Row} (h : rows.Perm rows') (i : Nat) : (colW rows i).Perm (colW rows' i) := h.map _
/-- how many unlike words -/
def nw (rows : List Row) (i : Nat) : Nat := (nubF (colW rows i)).length
theorem nw_perm {rows rows' : List Row} (h : rows.Perm rows') (i : Nat) : nw rows i = nw rows' i := (nubF_perm (colW_perm h i)).length_eq
/-- whether a place is fit to be parted at -/
def fitPl (sp le : Int) (rows : List Row) (i : Nat) : Bool := decide (2 ≤ nw rows i) && decide ((nw rows i : Int) ≤ sp) && (colW rows i).all fun w => decide (le ≤ ((colW rows i).count w : Nat))
theorem fitPl_perm {sp le : Int} {rows rows' : List Row} (h : rows.Perm rows') (i : Nat) : fitPl sp le rows i = fitPl sp le rows' i := by
  have hc := colW_perm h i
  unfold fitPl
  rw [nw_perm h]
  congr 1
  rw [Bool.eq_iff_iff, List.all_eq_true, List.all_eq_true]
  constructor
  · intro z w hw
    rw [← hc.count_eq]; exact z w (hc.mem_iff.mpr hw)
  · intro z w hw
    rw [hc.count_eq]; exact z w (hc.mem_iff.mp hw)
/-- the better of a place and the best so far -/
def isBet (sp le : Int) (rows : List Row) (b : Option Nat) (i : Nat) : Bool := fitPl sp le rows i && (match b with
  | none => true
  | some j => decide (nw rows i < nw rows j))
def stepPl (sp le : Int) (rows : List Row) (b : Option Nat) (i : Nat) : Option Nat := if isBet sp le rows b i = true then some i else b
def bestPl (sp le : Int) (rows : List Row) (n : Nat) : Option Nat := (List.range n).foldl (stepPl sp le rows) none
theorem isBet_perm {sp le : Int} {rows rows' : List Row} (h : rows.Perm rows') (b : Option Nat) (i : Nat) : isBet sp le rows b i = isBet sp le rows' b i := by
  unfold isBet
  rw [fitPl_perm h, nw_perm h]
  cases b with
  | none => rfl
  | some j => dsimp only; rw [nw_perm h j]
theorem bestPl_perm {sp le : Int} {rows rows' : List Row} (h : rows.Perm rows') (n : Nat) : bestPl sp le rows n = bestPl sp le rows' n := by
  unfold bestPl
  congr 1
  funext b i
  unfold stepPl
  rw [isBet_perm h]
theorem bestPl_succ (sp le : Int) (rows : List Row) (n : Nat) : bestPl sp le rows (n + 1) = stepPl sp le rows (bestPl sp le rows n) n := by
  unfold bestPl
  rw [List.range_succ, List.foldl_append]; rfl
theorem bestPl_fit {sp le : Int} {rows : List Row} : ∀ {n i : Nat}, bestPl sp le rows n = some i → i < n ∧ fitPl sp le rows i = true
  | 0, i, h => by cases h
  | n + 1, i, h => by
    rw [bestPl_succ] at h
    unfold stepPl at h
    by_cases e : isBet sp le rows (bestPl sp le rows n) n = true
    · rw [if_pos e] at h
      cases h
      unfold isBet at e
      rw [Bool.and_eq_true] at e
      exact ⟨Nat.lt_succ_self _, e.1⟩
    · rw [if_neg e] at h
      have := bestPl_fit h
      exact ⟨Nat.lt_succ_of_lt this.1, this.2⟩
/-- the rows with a word at a place -/
def pickR (rows : List Row) (i : Nat) (w : Str) : List Row := rows.filter fun r => decide (wAt r i = w)
theorem pickR_perm {rows rows' : List Row} (h : rows.Perm rows') (i : Nat) (w : Str) : (pickR rows i w).Perm (pickR rows' i w) := h.filter _
def lenR (rows : List Row) : Nat := (rows.headD []).length
/-- the join of some rows -/
def joinR (rows : List Row) : Pat := joinP (rows.map ofWs)
/-- the patterns of the groups -/
def grpP (sp le : Int) : Nat → List Row → List Pat
  | 0, rows => [joinR rows]
  | f + 1, rows => match bestPl sp le rows (lenR rows) with
    | none => [joinR rows]
    | some i => (nubF (colW rows i)).flatMap fun w => grpP sp le f (pickR rows i w)
theorem all_perm {α : Type} {p : α → Bool} {l m : List α} (h : l.Perm m) : l.all p = m.all p := by
  rw [Bool.eq_iff_iff, List.all_eq_true, List.all_eq_true]
  exact ⟨fun z x hx => z x (h.mem_iff.mpr hx), fun z x hx => z x (h.mem_iff.mp hx)⟩
theorem joinPt_perm {p q : Pt} {r s : List Pt} (h : (p :: r).Perm (q :: s)) : joinPt p r = joinPt q s := by
  have hq : q ∈ p :: r := h.mem_iff.mpr (List.mem_cons_self ..)
  unfold joinPt
  have e1 : ((p :: r).all fun x => decide (x = p)) = (q :: s).all fun x => decide (x = q) := by
    rw [all_perm h, Bool.eq_iff_iff, List.all_eq_true, List.all_eq_true]
    have hp : p ∈ q :: s := h.mem_iff.mp (List.mem_cons_self ..)
    constructor
    · intro z x hx
      have a := of_decide_eq_true (z x hx)
      have b := of_decide_eq_true (z q (List.mem_cons_self ..))
      exact decide_eq_true (a.trans b.symm)
    · intro z x hx
      have a := of_decide_eq_true (z x hx)
      have b := of_decide_eq_true (z p hp)
      exact decide_eq_true (a.trans b.symm)
  rw [e1]
  cases c : (q :: s).all fun x => decide (x = q) with
  | true =>
    rw [c] at e1
    simp only [if_true]
    exact (of_decide_eq_true (List.all_eq_true.mp e1 q hq)).symm
  | false =>
    have e2 : ((p :: r).all fun x => decide (jKind x = jKind p)) = (q :: s).all fun x => decide (jKind x = jKind q) := by
      rw [all_perm h, Bool.eq_iff_iff, List.all_eq_true, List.all_eq_true]
      have hp : p ∈ q :: s := h.mem_iff.mp (List.mem_cons_self ..)
      constructor
      · intro z x hx
        have a := of_decide_eq_true (z x hx)
        have b := of_decide_eq_true (z q (List.mem_cons_self ..))
        exact decide_eq_true (a.trans b.symm)
      · intro z x hx
        have a := of_decide_eq_true (z x hx)
        have b := of_decide_eq_true (z p hp)
        exact decide_eq_true (a.trans b.symm)
    rw [e2]
    cases c2 : (q :: s).all fun x => decide (jKind x = jKind q) with
    | false => rfl
    | true =>
      rw [c2] at e2
      have := of_decide_eq_true (List.all_eq_true.mp e2 q hq)
      rw [this]
      rfl
theorem joinP_perm {ps qs : List Pat} (h : ps.Perm qs) (hl : ∀ p ∈ ps, ∀ q ∈ ps, p.length = q.length) : joinP ps = joinP qs := by
  cases ps with
  | nil => rw [h.nil_eq]
  | cons p r =>
    cases qs with
    | nil => exact absurd h.symm.nil_eq (by simp)
    | cons q s =>
      have hq : q ∈ p :: r := h.mem_iff.mpr (List.mem_cons_self ..)
      show (List.range p.length).map _ = (List.range q.length).map _
      rw [hl p (List.mem_cons_self ..) q hq]
      refine List.map_congr_left fun i _ => joinPt_perm ?_
      have := h.map fun x : Pat => x.getD i hole
      exact this
end Tx
namespace Tx
open PySem PySem.Spec L2 Pl
theorem pickR_len {rows : List Row} {i : Nat} {w : Str} (h : ∃ v, v ∈ colW rows i ∧ v ≠ w) : (pickR rows i w).length < rows.length := by
  obtain ⟨v, hv, n⟩ := h
  obtain ⟨r, hr, rfl⟩ := List.mem_map.mp hv
  unfold pickR
  exact List.length_filter_lt_length_iff_exists.mpr ⟨r, hr, by simpa using n⟩
theorem other_word {rows : List Row} {i : Nat} (h : 2 ≤ nw rows i) (w : Str) : ∃ v, v ∈ colW rows i ∧ v ≠ w := by
  unfold nw at h
  have nd := nubF_nodup (colW rows i)
  match e : nubF (colW rows i) with
  | [] => rw [e] at h; simp at h
  | [a] => rw [e] at h; simp at h
  | a :: b :: t =>
    rw [e] at nd
    have hab : a ≠ b := fun z => (List.nodup_cons.mp nd).1 (by rw [z]; simp)
    by_cases ha : a = w
    · exact ⟨b, mem_nubF.mp (by rw [e]; simp), fun z => hab (ha.trans z.symm)⟩
    · exact ⟨a, mem_nubF.mp (by rw [e]; simp), ha⟩
theorem fitPl_two {sp le : Int} {rows : List Row} {i : Nat} (h : fitPl sp le rows i = true) : 2 ≤ nw rows i ∧ (nw rows i : Int) ≤ sp := by
  unfold fitPl at h
  rw [Bool.and_eq_true, Bool.and_eq_true] at h
  exact ⟨of_decide_eq_true h.1.1, of_decide_eq_true h.1.2⟩
theorem pickR_mem {rows : List Row} {i : Nat} {w : Str} {r : Row} : r ∈ pickR rows i w ↔ r ∈ rows ∧ wAt r i = w := by
  unfold pickR
  rw [List.mem_filter, decide_eq_true_iff]
theorem pickR_ne {rows : List Row} {i : Nat} {w : Str} (h : w ∈ colW rows i) : pickR rows i w ≠ [] := by
  obtain ⟨r, hr, e⟩ := List.mem_map.mp h
  intro z
  have : r ∈ pickR rows i w := pickR_mem.mpr ⟨hr, e⟩
  rw [z] at this; cases this
theorem lenR_of {rows : List Row} {k : Nat} (h0 : rows ≠ []) (h : ∀ r ∈ rows, r.length = k) : lenR rows = k := by
  cases rows with
  | nil => exact absurd rfl h0
  | cons r t => exact h r (List.mem_cons_self ..)
theorem flatMap_perm {α β : Type} (f g : α → List β) : ∀ {l : List α}, (∀ x ∈ l, (f x).Perm (g x)) → (l.flatMap f).Perm (l.flatMap g)
  | [], _ => List.Perm.refl _
  | x :: l, h => by
    rw [List.flatMap_cons, List.flatMap_cons]
    exact (h x (List.mem_cons_self ..)).append (flatMap_perm f g fun y hy => h y (List.mem_cons_of_mem _ hy))
theorem flatMap_of_perm {α β : Type} (f : α → List β) {l m : List α} (h : l.Perm m) : (l.flatMap f).Perm (m.flatMap f) := h.flatMap_right f
theorem joinR_perm {rows rows' : List Row} {k : Nat} (h : rows.Perm rows') (hk : ∀ r ∈ rows, r.length = k) : joinR rows = joinR rows' := by
  unfold joinR
  refine joinP_perm (h.map _) fun p hp q hq => ?_
  obtain ⟨r, hr, rfl⟩ := List.mem_map.mp hp
  obtain ⟨t, ht, rfl⟩ := List.mem_map.mp hq
  unfold ofWs
  rw [List.length_map, List.length_map, hk r hr, hk t ht]
/-- the order of the rows changes nothing -/
theorem grpP_perm {sp le : Int} {k : Nat} : ∀ (f : Nat) {rows rows' : List Row}, rows.Perm rows' → (∀ r ∈ rows, r.length = k) → (grpP sp le f rows).Perm (grpP sp le f rows')
  | 0, rows, rows', h, hk => by
    show [joinR rows].Perm [joinR rows']
    rw [joinR_perm h hk]
  | f + 1, rows, rows', h, hk => by
    have hk' : ∀ r ∈ rows', r.length = k := fun r hr => hk r (h.mem_iff.mpr hr)
    have el : lenR rows = lenR rows' := by
      cases rows with
      | nil => rw [h.nil_eq]
      | cons r t =>
        have n' : rows' ≠ [] := fun z => by rw [z] at h; exact absurd h.symm.nil_eq (by simp)
        rw [lenR_of (by simp) hk, lenR_of n' hk']
    unfold grpP
    rw [bestPl_perm h, el]
    cases bestPl sp le rows' (lenR rows') with
    | none => show [joinR rows].Perm [joinR rows']; rw [joinR_perm h hk]
    | some i =>
      exact (flatMap_perm _ _ fun w _ => grpP_perm f (pickR_perm h i w) fun r hr => hk r (pickR_mem.mp hr).1).trans (flatMap_of_perm _ (nubF_perm (colW_perm h i)))
/-! the gathered patterns -/
def fuel : Nat := 130
def linesM (ls : List Str) (m : Nat) : List Str := (nubF ls).filter fun z => decide ((Txt.split z " ").length = m)
def rowsM (ls : List Str) (m : Nat) : List Row := (linesM ls m).map fun z => Txt.split z " "
def gatM (sp le : Int) (ls : List Str) (m : Nat) : List Pat := if linesM ls m = [] then [] else grpP sp le fuel (rowsM ls m)
/-- the patterns of the groups of some lines, in order -/
def gat (sp le : Int) (ls : List Str) : List Pat := inOrder ((List.range' 1 12).flatMap (gatM sp le ls))
theorem linesM_perm {ls ls' : List Str} (h : ∀ z, z ∈ ls ↔ z ∈ ls') (m : Nat) : (linesM ls m).Perm (linesM ls' m) := by
  unfold linesM
  exact (perm_of_mem (nubF_nodup ls) (nubF_nodup ls') fun z => by rw [mem_nubF, mem_nubF, h]).filter _
theorem rowsM_len {ls : List Str} {m : Nat} : ∀ r ∈ rowsM ls m, r.length = m := by
  intro r hr
  unfold rowsM linesM at hr
  obtain ⟨z, hz, rfl⟩ := List.mem_map.mp hr
  exact of_decide_eq_true (List.mem_filter.mp hz).2
theorem gatM_perm {sp le : Int} {ls ls' : List Str} (h : ∀ z, z ∈ ls ↔ z ∈ ls') (m : Nat) : (gatM sp le ls m).Perm (gatM sp le ls' m) := by
  have hp := linesM_perm h m
  unfold gatM
  by_cases e : linesM ls m = []
  · have e' : linesM ls' m = [] := by rw [e] at hp; exact hp.nil_eq.symm
    rw [if_pos e, if_pos e']
  · have e' : linesM ls' m ≠ [] := fun z => by rw [z] at hp; exact e hp.symm.nil_eq.symm
    rw [if_neg e, if_neg e']
    exact grpP_perm fuel (hp.map _) rowsM_len
/-- the order of the lines, and how often they are told, change nothing -/
theorem gat_same {sp le : Int} {ls ls' : List Str} (h : ∀ z, z ∈ ls ↔ z ∈ ls') : gat sp le ls = gat sp le ls' := inOrder_of_perm (flatMap_perm _ _ fun m _ => gatM_perm h m)
end Tx
/-! counted, parting_place -/
namespace Tx
open PySem PySem.Spec L2 Pl
def rowD (r : Row) : Pl.D := .list (r.map .str)
def rowsD (ds : List Pl.D) (rows : List Row) : Prop := ds.map vw = rows.map rowD
theorem row_at {r : Row} {i : Nat} (h : i < r.length) : atI (r.map Pl.D.str) (i : Int) = some (.str (wAt r i)) := by
  unfold atI
  rw [ixN_in (by omega) (by rw [List.length_map]; omega)]
  show (r.map Pl.D.str)[i]? = _
  unfold wAt
  rw [List.getElem?_map, List.getD_eq_getElem?_getD, List.getElem?_eq_getElem h]; rfl
def cntF (ws : List Str) (w : Str) : Pl.D := .int ((ws.count w : Nat) : Int)
def cntK (ws : List Str) : List Key := (nubF ws).map .inr
def cntV (ws : List Str) : List Pl.D := (nubF ws).map (cntF ws)
theorem cnt_get (ws : List Str) (w : Str) : (assoc (cntK ws) (cntV ws) (.inr w)).getD (.int 0) = .int ((ws.count w : Nat) : Int) := by
  unfold cntK cntV
  rw [assoc_map (β := Str) .inr inr_inj]
  by_cases h : w ∈ nubF ws
  · rw [if_pos h]; rfl
  · rw [if_neg h]
    rw [mem_nubF] at h
    rw [List.count_eq_zero_of_not_mem h]; rfl
theorem cnt_put (ws : List Str) (w : Str) : dputK (cntK ws) (.inr w) = cntK (ws ++ [w]) ∧ dputD (cntK ws) (cntV ws) (.inr w) (.int ((ws.count w : Nat) + 1)) = cntV (ws ++ [w]) := by
  have e : Pl.D.int ((ws.count w : Nat) + 1) = cntF (ws ++ [w]) w := by
    unfold cntF
    rw [List.count_append, List.count_singleton_self]; rfl
  unfold cntK cntV
  rw [e, nubF_snoc]
  refine put_map (β := Str) .inr inr_inj (nubF ws) (cntF ws) (cntF (ws ++ [w])) w fun y _ n => ?_
  unfold cntF
  rw [List.count_append, List.count_singleton, if_neg (by simpa using fun z => n z.symm), Nat.add_zero]
def C_counted : Con := fun os post => ∃ (ds : List Pl.D) (rows : List Row) (i : Nat), os = [.sh (.list ds), .sh (.int (i : Int))] ∧ rowsD ds rows ∧ (∀ r ∈ rows, i < r.length) ∧ rows.length ≤ 100000 ∧ post (.fd (cntK (colW rows i)) (cntV (colW rows i))) os
theorem colW_snoc (rows : List Row) (r : Row) (i : Nat) : colW (rows ++ [r]) i = colW rows i ++ [wAt r i] := by unfold colW; rw [List.map_append]; rfl
theorem h_counted : ∀ os post, C_counted os post → os.length = 2 ∧ r_counted (dEnds [] os post) (start0 N_counted.length os) := by
  rintro os post ⟨ds, rows, i, rfl, hd, hi, hl, k⟩
  refine ⟨rfl, ?_⟩
  conv => whnf
  refine loop_ind (fun dr ρ => ∃ done rest a3, rows = done ++ rest ∧ rowsD dr rest ∧ ρ = [some (.sh (.list ds)), some (.sh (.int (i : Int))), some (.fd (cntK (colW done i)) (cntV (colW done i))), a3]) ?_ ?_ _ _ ⟨[], rows, none, rfl, hd, rfl⟩
  · rintro ρ ⟨done, rest, a3, e1, e2, rfl⟩
    have e : rest = [] := List.map_eq_nil_iff.mp e2.symm
    subst e
    rw [List.append_nil] at e1
    subst e1
    exact k
  · rintro d dr ρ R ⟨done, rest, a3, e1, e2, rfl⟩ hR
    cases rest with
    | nil => cases e2
    | cons r rest =>
      have e2 : vw d :: dr.map vw = rowD r :: rest.map rowD := e2
      rw [List.cons.injEq] at e2
      obtain ⟨hdr, e2⟩ := e2
      have hr : i < r.length := hi r (by rw [e1]; simp)
      have hlen : (cntK (colW done i)).length < sizeLine := by
        unfold cntK
        have := nubF_len (colW done i)
        have h2 : (colW done i).length = done.length := List.length_map ..
        have h3 := congrArg List.length e1
        rw [List.length_append] at h3
        rw [List.length_map]; exact small (by omega)
      conv => whnf
      rw [hdr]
      conv => whnf
      rw [row_at hr]
      conv => whnf
      rw [cnt_get]
      conv => whnf
      rw [hdr]
      conv => whnf
      rw [row_at hr]
      conv => whnf
      refine ⟨hlen, ?_⟩
      obtain ⟨p1, p2⟩ := cnt_put (colW done i) (wAt r i)
      rw [p1, p2, ← colW_snoc]
      exact hR _ ⟨done ++ [r], rest, _, by rw [e1, List.append_assoc]; rfl, e2, rfl⟩

def sieveD (sp le : Int) : Pl.D := .tuple [.int sp, .int le]
def enB (rows : List Row) : Option Nat → Pl.D
  | none => .none
  | some j => .tuple [.int (nw rows j : Nat), .int (j : Int)]
def enN : Option Nat → Pl.D
  | none => .none
  | some j => .int (j : Int)
theorem cntK_len (rows : List Row) (i : Nat) : (cntK (colW rows i)).length = nw rows i := List.length_map ..
theorem unkeys (ws : List Str) : (cntK ws).map unkey = (nubF ws).map Pl.D.str := by
  unfold cntK
  rw [List.map_map]; rfl
theorem cnt_ix (ws : List Str) {w : Str} (h : w ∈ nubF ws) : assoc (cntK ws) (cntV ws) (.inr w) = some (cntF ws w) := by
  unfold cntK cntV
  rw [assoc_map (β := Str) .inr inr_inj, if_pos h]
theorem fit_is {sp le m : Int} {rows : List Row} {i : Nat} (h1 : m ∈ (nubF (colW rows i)).map fun w => ((((colW rows i).count w : Nat)) : Int)) (h2 : ∀ j ∈ (nubF (colW rows i)).map fun w => (((colW rows i).count w : Nat) : Int), m ≤ j) :
    fitPl sp le rows i = (decide (2 ≤ nw rows i) && decide ((nw rows i : Int) ≤ sp) && decide (le ≤ m)) := by
  unfold fitPl
  congr 1
  rw [Bool.eq_iff_iff, List.all_eq_true, decide_eq_true_iff]
  obtain ⟨w, hw, rfl⟩ := List.mem_map.mp h1
  constructor
  · intro z
    exact of_decide_eq_true (z w (mem_nubF.mp hw))
  · intro z v hv
    have := h2 _ (List.mem_map_of_mem (mem_nubF.mpr hv))
    exact decide_eq_true (by omega)
def C_partPl : Con := fun os post => ∃ (ds : List Pl.D) (rows : List Row) (k : Nat) (sp le : Int), os = [.sh (.list ds), .sh (sieveD sp le)] ∧ rowsD ds rows ∧ rows ≠ [] ∧ (∀ r ∈ rows, r.length = k) ∧ k ≤ 1000 ∧ rows.length ≤ 100000 ∧ post (.sh (enN (bestPl sp le rows (lenR rows)))) os
theorem h_partPl : ∀ os post, C_partPl os post → os.length = 2 ∧ r_parting_place C_counted (dEnds [] os post) (start0 N_parting_place.length os) := by
  rintro os post ⟨ds, rows, k, sp, le, rfl, hd, h0, hk, hk2, hl, kk⟩
  refine ⟨rfl, ?_⟩
  rw [lenR_of h0 hk] at kk
  have hcol : ∀ i, colW rows i ≠ [] := fun i e => h0 (List.map_eq_nil_iff.mp e)
  have hcl : ∀ i, (colW rows i).length = rows.length := fun i => List.length_map ..
  obtain ⟨r0, hr0, d0, hat, hd0⟩ : ∃ r0, r0 ∈ rows ∧ ∃ d0, atI ds 0 = some d0 ∧ vw d0 = rowD r0 := by
    cases rows with
    | nil => exact absurd rfl h0
    | cons r t =>
      cases ds with
      | nil => cases hd
      | cons d e =>
        have hd : vw d :: e.map vw = rowD r :: t.map rowD := hd
        rw [List.cons.injEq] at hd
        exact ⟨r, List.mem_cons_self .., d, at_head _ _, hd.1⟩
  have hrl : (r0.map Pl.D.str).length = k := by rw [List.length_map]; exact hk r0 hr0
  conv => whnf
  rw [hat]
  conv => whnf
  rw [hd0]
  conv => whnf
  refine ⟨by omega, ?_⟩
  conv => whnf
  refine ⟨by omega, ?_⟩
  have er : rng 0 (((r0.map Pl.D.str).length : Nat) : Int).toNat = (List.range k).map fun i : Nat => .int (i : Int) := by rw [hrl, rng_map]; rfl
  refine loop_ind (fun dr ρ => ∃ n a3 a4 a5 a6, n ≤ k ∧ dr = (List.range' n (k - n)).map (fun i : Nat => Pl.D.int (i : Int)) ∧ ρ = [some (.sh (.list ds)), some (.sh (sieveD sp le)), some (.sh (enB rows (bestPl sp le rows n))), a3, a4, a5, a6]) ?_ ?_ _ _ ⟨0, none, none, none, none, Nat.zero_le _, by rw [er, List.range_eq_range']; rfl, rfl⟩
  · rintro ρ ⟨n, a3, a4, a5, a6, e1, e2, rfl⟩
    have e : k - n = 0 := by
      have := congrArg List.length e2
      rw [List.length_map, List.length_range'] at this
      exact this.symm
    have e : n = k := by omega
    subst e
    cases hb : bestPl sp le rows n with
    | none => rw [hb] at kk; exact kk
    | some j => rw [hb] at kk; exact kk
  · rintro d dr ρ R ⟨n, a3, a4, a5, a6, e1, e2, rfl⟩ hR
    have hn : n < k := by
      have := congrArg List.length e2
      rw [List.length_map, List.length_range', List.length_cons] at this
      omega
    have e3 : k - n = (k - (n + 1)) + 1 := by omega
    rw [e3, List.range'_succ, List.map_cons, List.cons.injEq] at e2
    obtain ⟨rfl, rfl⟩ := e2
    have fin : ∀ a3 a4 a5 a6, R [some (.sh (.list ds)), some (.sh (sieveD sp le)), some (.sh (enB rows (bestPl sp le rows (n + 1)))), a3, a4, a5, a6] := fun a3 a4 a5 a6 => hR _ ⟨n + 1, _, _, _, _, hn, rfl, rfl⟩
    have hsz : (nubF (colW rows n)).length ≤ 100000 := by have := nubF_len (colW rows n); rw [hcl] at this; omega
    conv => whnf
    refine ⟨ds, rows, n, rfl, hd, fun r hr => by rw [hk r hr]; exact hn, hl, ?_⟩
    conv => whnf
    refine ⟨?_, ?_⟩
    · show ((cntK (colW rows n)).map unkey).length ≤ _
      rw [List.length_map, cntK_len]; exact Nat.le_of_lt (small (by unfold nw; omega))
    rw [show List.map unkey (cntK (colW rows n)) = (nubF (colW rows n)).map Pl.D.str from unkeys _]
    refine lc_mt id Pl.D.str (fun w => some (cntF (colW rows n) w)) (fun w => w ∈ nubF (colW rows n)) [some (.sh (.list ds)), some (.sh (sieveD sp le)), some (.sh (enB rows (bestPl sp le rows n))), some (.sh (.int (n : Int))), some (.fr (cntK (colW rows n)) (cntV (colW rows n))), a5, a6] ?_ _ (nubF (colW rows n)) _ (by rw [List.map_id]) (fun _ h => h) ?_
    · rintro d w hd' hw R2 acc hR2
      have hd' : d = .str w := hd'
      subst hd'
      conv => whnf
      rw [cnt_ix _ hw]
      exact hR2
    rw [fm_some, List.nil_append]
    have ec : (nubF (colW rows n)).map (cntF (colW rows n)) = ((nubF (colW rows n)).map fun w => (((colW rows n).count w : Nat) : Int)).map .int := by rw [List.map_map]; rfl
    rw [ec]
    have hne : ((nubF (colW rows n)).map fun w => (((colW rows n).count w : Nat) : Int)) ≠ [] := by
      intro z
      have z := List.map_eq_nil_iff.mp z
      obtain ⟨w, hw⟩ := List.exists_mem_of_ne_nil _ (hcol n)
      have := mem_nubF.mpr hw
      rw [z] at this; cases this
    have hfit : ∀ m, m ∈ ((nubF (colW rows n)).map fun w => (((colW rows n).count w : Nat) : Int)) → (∀ j ∈ ((nubF (colW rows n)).map fun w => (((colW rows n).count w : Nat) : Int)), m ≤ j) → fitPl sp le rows n = (decide (2 ≤ nw rows n) && decide ((nw rows n : Int) ≤ sp) && decide (le ≤ m)) := fun m => fit_is
    generalize ((nubF (colW rows n)).map fun w => (((colW rows n).count w : Nat) : Int)) = xs at hne hfit
    cases xs with
    | nil => exact absurd rfl hne
    | cons x xs =>
      conv => whnf
      refine min_ints (n := x) (ns := xs) fun m hm hmx => ?_
      have hf := hfit m hm hmx
      have hbs := bestPl_succ sp le rows n
      unfold stepPl isBet at hbs
      rw [hf] at hbs
      have hkl := cntK_len rows n
      generalize cntK (colW rows n) = ks at hkl
      conv => whnf
      rw [hkl]
      by_cases c1 : 2 ≤ nw rows n
      · rw [decide_eq_true (show (2 : Int) ≤ (nw rows n : Nat) by omega)]
        rw [decide_eq_true c1] at hbs
        conv => whnf
        cases c2 : decide ((nw rows n : Int) ≤ sp) with
        | false =>
          rw [c2] at hbs
          have hbs : bestPl sp le rows (n + 1) = bestPl sp le rows n := hbs
          rw [hbs] at fin
          exact fin _ _ _ _
        | true =>
          rw [c2] at hbs
          conv => whnf
          cases c3 : decide (le ≤ m) with
          | false =>
            rw [c3] at hbs
            have hbs : bestPl sp le rows (n + 1) = bestPl sp le rows n := hbs
            rw [hbs] at fin
            exact fin _ _ _ _
          | true =>
            rw [c3] at hbs
            cases hb : bestPl sp le rows n with
            | none =>
              rw [hb] at hbs
              have hbs : bestPl sp le rows (n + 1) = some n := hbs
              rw [hbs] at fin
              have fin : ∀ a3 a4 a5 a6, R [some (.sh (.list ds)), some (.sh (sieveD sp le)), some (.sh (.tuple [.int (nw rows n : Nat), .int (n : Int)])), a3, a4, a5, a6] := fin
              rw [← hkl] at fin
              exact fin _ _ _ _
            | some j =>
              rw [hb] at hbs
              conv => whnf
              rw [hkl]
              have hbs : bestPl sp le rows (n + 1) = if decide (nw rows n < nw rows j) = true then some n else some j := hbs
              have ej : decide (((nw rows n : Nat) : Int) < ((nw rows j : Nat) : Int)) = decide (nw rows n < nw rows j) := decide_eq_decide.mpr (by omega)
              rw [ej]
              cases c4 : decide (nw rows n < nw rows j) with
              | false =>
                rw [c4] at hbs
                have hbs : bestPl sp le rows (n + 1) = some j := hbs
                rw [hbs] at fin
                exact fin _ _ _ _
              | true =>
                rw [c4] at hbs
                have hbs : bestPl sp le rows (n + 1) = some n := hbs
                rw [hbs] at fin
                have fin : ∀ a3 a4 a5 a6, R [some (.sh (.list ds)), some (.sh (sieveD sp le)), some (.sh (.tuple [.int (nw rows n : Nat), .int (n : Int)])), a3, a4, a5, a6] := fin
                rw [← hkl] at fin
                exact fin _ _ _ _
      · rw [decide_eq_false (show ¬ (2 : Int) ≤ (nw rows n : Nat) by omega)]
        rw [decide_eq_false c1] at hbs
        have hbs : bestPl sp le rows (n + 1) = bestPl sp le rows n := hbs
        rw [hbs] at fin
        exact fin _ _ _ _
end Tx
/-! sieve_of, of_words, groups_of -/
namespace Pl
open PySem PySem.Spec L2
open PySem.W (EachIs)
theorem each_map_iff {α : Type} {e : α → D} {ve : D → D} : ∀ {ds : List D} {xs : List α}, ds.map ve = xs.map e ↔ EachIs (fun d x => ve d = e x) ds xs
  | [], [] => ⟨fun _ => .nil, fun _ => rfl⟩
  | [], _ :: _ => ⟨fun h => (by cases h), fun h => (by cases h)⟩
  | _ :: _, [] => ⟨fun h => (by cases h), fun h => (by cases h)⟩
  | d :: ds, x :: xs => by
    rw [List.map_cons, List.map_cons, List.cons.injEq, each_map_iff]
    exact ⟨fun h => .cons h.1 h.2, fun h => by cases h with | cons a b => exact ⟨a, b⟩⟩
theorem each_app {α β : Type} {R : α → β → Prop} : ∀ {as : List α} {bs : List β} {cs : List α} {ds : List β}, EachIs R as bs → EachIs R cs ds → EachIs R (as ++ cs) (bs ++ ds)
  | _, _, _, _, .nil, h => h
  | _, _, _, _, .cons a r, h => .cons a (each_app r h)
theorem each_len {α β : Type} {R : α → β → Prop} : ∀ {as : List α} {bs : List β}, EachIs R as bs → as.length = bs.length
  | _, _, .nil => rfl
  | _, _, .cons _ r => by rw [List.length_cons, List.length_cons, each_len r]
/-- a comprehension that keeps some of the things themselves -/
theorem lc_keep {α : Type} {g : TPg} {tt : TPt} {te : TPe} {vs : List Nat} {Q : O → Ev → Prop} (P : D → α → Prop) (c : α → Bool) (ρ : Ev)
    (hs : ∀ d x, P d x → ∀ (R : Ev → List D → Prop) acc, (if c x = true then R ρ (acc ++ [d]) else R ρ acc) → g d (wipeE ρ vs) fun ρ1 => tt ρ1 fun b ρ2 => match b with
      | true => te ρ2 fun y ρ3 => R (back ρ ρ3 vs) (acc ++ [y])
      | false => R (back ρ ρ2 vs) acc) : ∀ (ds : List D) (xs : List α) (acc : List D), EachIs P ds xs → (∀ es, EachIs P es (xs.filter c) → Q (.fl (acc ++ es)) ρ) → lcR g tt te vs Q ds ρ acc
  | [], _, acc, .nil, q => by
    have := q [] .nil
    rw [List.append_nil] at this
    exact this
  | d :: ds, _, acc, .cons (b := x) (bs := xs) h t, q => by
    refine hs d x h (lcR g tt te vs Q ds) acc ?_
    cases e : c x with
    | true =>
      rw [if_pos rfl]
      refine lc_keep P c ρ hs ds xs _ t fun es he => ?_
      rw [List.append_assoc]
      refine q (d :: es) ?_
      rw [List.filter_cons, if_pos e]
      exact .cons h he
    | false =>
      rw [if_neg (by decide)]
      refine lc_keep P c ρ hs ds xs _ t fun es he => ?_
      refine q es ?_
      rw [List.filter_cons, if_neg (by rw [e]; decide)]
      exact he
end Pl
namespace Tx
open PySem PySem.Spec L2 Pl
open PySem.W (EachIs)
def C_sieveOf : Con := fun os post => ∃ (d : Pl.D) (sp le : Int), os = [.sh d] ∧ (d = sieveD sp le ∨ (d = .none ∧ sp = 3 ∧ le = 2)) ∧ post (.sh (sieveD sp le)) os
theorem h_sieveOf : ∀ os post, C_sieveOf os post → os.length = 1 ∧ r_sieve_of (dEnds [] os post) (start0 N_sieve_of.length os) := by
  rintro os post ⟨d, sp, le, rfl, h, k⟩
  refine ⟨rfl, ?_⟩
  rcases h with rfl | ⟨rfl, rfl, rfl⟩
  · exact k
  · exact k
def C_ofWords : Con := fun os post => ∃ z : Str, os = [.sh (.str z)] ∧ z.length ≤ 1000000 ∧ (Txt.split z " ").length ≤ 1000 ∧ post (.fl ((ofWs (Txt.split z " ")).map enP)) os
theorem h_ofWords : ∀ os post, C_ofWords os post → os.length = 1 ∧ r_of_words C_words (dEnds [] os post) (start0 N_of_words.length os) := by
  rintro os post ⟨z, rfl, hl, hw, k⟩
  refine ⟨rfl, ?_⟩
  conv => whnf
  refine ⟨z, rfl, hl, ?_⟩
  have hw : (Txt.split z " ").length ≤ sizeLine := Nat.le_of_lt (small (by omega))
  generalize Txt.split z " " = ws at k hw
  conv => whnf
  refine ⟨by rw [List.length_map]; exact hw, ?_⟩
  refine lc_mt id Pl.D.str (fun w => some (enP (.w w))) (fun _ => True) [some (.sh (.str z)), none] ?_ _ ws _ (by rw [List.map_id]) (fun _ _ => trivial) ?_
  · rintro d w hd _ R acc hR
    have hd : d = .str w := hd
    subst hd
    exact hR
  rw [fm_some, List.nil_append]
  have e : (ofWs ws).map enP = ws.map fun w => enP (.w w) := by unfold ofWs; rw [List.map_map]; rfl
  rw [e] at k
  exact k
theorem rowsD_each {ds : List Pl.D} {rows : List Row} : rowsD ds rows ↔ EachIs (fun d r => vw d = rowD r) ds rows := each_map_iff
def grpD (e : Pl.D) (g : List Row) : Prop := ∃ ds, vw e = .list ds ∧ rowsD ds g
/-- the groups' sizes come to no more than the rows -/
theorem picks_len (i : Nat) : ∀ (ws : List Str), ws.Nodup → ∀ rows : List Row, (ws.map fun w => (pickR rows i w).length).sum ≤ rows.length
  | [], _, rows => Nat.zero_le _
  | w :: ws, nd, rows => by
    obtain ⟨n1, n2⟩ := List.nodup_cons.mp nd
    have ih := picks_len i ws n2 (rows.filter fun r => !decide (wAt r i = w))
    have e : (ws.map fun v => (pickR (rows.filter fun r => !decide (wAt r i = w)) i v).length) = ws.map fun v => (pickR rows i v).length := by
      refine List.map_congr_left fun v hv => ?_
      have hne : v ≠ w := fun z => n1 (z ▸ hv)
      unfold pickR
      rw [List.filter_filter]
      congr 1
      refine List.filter_congr fun r _ => ?_
      by_cases h : wAt r i = v
      · rw [decide_eq_true h, h, decide_eq_false hne]; rfl
      · rw [decide_eq_false h]; rfl
    rw [e] at ih
    have hs : (pickR rows i w).length + (rows.filter fun r => !decide (wAt r i = w)).length = rows.length := by
      unfold pickR
      rw [← List.countP_eq_length_filter, ← List.countP_eq_length_filter]
      have := List.length_eq_countP_add_countP (fun r : Row => decide (wAt r i = w)) (l := rows)
      have e2 : (fun r : Row => decide ¬ (decide (wAt r i = w)) = true) = fun r => !decide (wAt r i = w) := by
        funext r
        by_cases h : wAt r i = w <;> simp [h]
      rw [e2] at this
      exact this.symm
    rw [List.map_cons, List.sum_cons]
    omega
def C_groups (f : Nat) : Con := fun os post => ∃ (ds : List Pl.D) (rows : List Row) (k : Nat) (sp le : Int), os = [.sh (.list ds), .sh (sieveD sp le)] ∧ rowsD ds rows ∧ rows ≠ [] ∧ (∀ r ∈ rows, r.length = k) ∧ k ≤ 1000 ∧ rows.length ≤ f ∧ f ≤ 1000 ∧ sp ≤ 60 ∧
  ∀ es gs, EachIs grpD es gs → (gs.map joinR).Perm (grpP sp le f rows) → (∀ g ∈ gs, g ≠ [] ∧ g.length ≤ rows.length ∧ ∀ r ∈ g, r ∈ rows) → es.length ≤ rows.length → post (.fl es) os
theorem h_groups (f : Nat) : ∀ os post, C_groups (f + 1) os post → os.length = 2 ∧ r_groups_of C_counted (C_groups f) C_partPl (dEnds [] os post) (start0 N_groups_of.length os) := by
  rintro os post ⟨ds, rows, k, sp, le, rfl, hd, h0, hk, hk2, hl, hf, hsp, kk⟩
  refine ⟨rfl, ?_⟩
  have hdl : ds.length = rows.length := len_of_map hd
  have hpos : 0 < rows.length := List.length_pos_iff.mpr h0
  conv => whnf
  refine ⟨ds, rows, k, sp, le, rfl, hd, h0, hk, hk2, by omega, ?_⟩
  cases hb : bestPl sp le rows (lenR rows) with
  | none =>
    conv => whnf
    refine kk [.list ds] [rows] (.cons ⟨ds, rfl, hd⟩ .nil) ?_ (fun g hg => by rw [List.mem_singleton.mp hg]; exact ⟨h0, Nat.le_refl _, fun _ h => h⟩) hpos
    unfold grpP
    rw [hb]
    exact List.Perm.refl _
  | some i =>
    have hg : grpP sp le (f + 1) rows = (nubF (colW rows i)).flatMap fun w => grpP sp le f (pickR rows i w) := by
      show (match bestPl sp le rows (lenR rows) with
        | none => [joinR rows]
        | some i => (nubF (colW rows i)).flatMap fun w => grpP sp le f (pickR rows i w)) = _
      rw [hb]
    rw [hg] at kk
    obtain ⟨hik, hfit⟩ := bestPl_fit hb
    rw [lenR_of h0 hk] at hik
    obtain ⟨t1, t2⟩ := fitPl_two hfit
    conv => whnf
    refine ⟨ds, rows, i, rfl, hd, fun r hr => by rw [hk r hr]; exact hik, by omega, ?_⟩
    conv => whnf
    refine ⟨nubF (colW rows i), rfl, by unfold nw at t2; omega, fun ys pys _ => ?_⟩
    have ynd : ys.Nodup := pys.nodup_iff.mpr (nubF_nodup _)
    have ymem : ∀ w ∈ ys, w ∈ colW rows i := fun w hw => mem_nubF.mp (pys.mem_iff.mp hw)
    refine loop_ind (fun dr ρ => ∃ dw rw es gs a4 a5, ys = dw ++ rw ∧ dr = rw.map Pl.D.str ∧ EachIs grpD es gs ∧ (gs.map joinR).Perm (dw.flatMap fun w => grpP sp le f (pickR rows i w)) ∧ (∀ g ∈ gs, g ≠ [] ∧ g.length ≤ rows.length ∧ ∀ r ∈ g, r ∈ rows) ∧ es.length ≤ (dw.map fun w => (pickR rows i w).length).sum ∧
      ρ = [some (.sh (.list ds)), some (.sh (sieveD sp le)), some (.sh (.int (i : Int))), some (.fl es), a4, a5]) ?_ ?_ _ _ ⟨[], ys, [], [], none, none, rfl, rfl, .nil, List.Perm.refl _, by simp, Nat.le_refl _, rfl⟩
    · rintro ρ ⟨dw, rw, es, gs, a4, a5, e1, e2, e3, e4, e5, e6, rfl⟩
      have e : rw = [] := List.map_eq_nil_iff.mp e2.symm
      subst e
      rw [List.append_nil] at e1
      subst e1
      refine kk es gs e3 (e4.trans (flatMap_of_perm _ pys)) e5 ?_
      have := picks_len i ys ynd rows
      omega
    · rintro d dr ρ R ⟨dw, rw, es, gs, a4, a5, e1, e2, e3, e4, e5, e6, rfl⟩ hR
      cases rw with
      | nil => cases e2
      | cons w rw =>
        rw [List.map_cons, List.cons.injEq] at e2
        obtain ⟨rfl, rfl⟩ := e2
        have hw : w ∈ colW rows i := ymem w (by rw [e1]; simp)
        have hlt : (pickR rows i w).length < rows.length := pickR_len (other_word t1 w)
        have hsum : es.length ≤ rows.length := by
          have h1 := picks_len i ys ynd rows
          rw [e1, List.map_append, List.sum_append] at h1
          omega
        conv => whnf
        refine ⟨by rw [hdl]; exact Nat.le_of_lt (small (by omega)), ?_⟩
        refine lc_keep (fun d r => vw d = rowD r ∧ r.length = k) (fun r => decide (wAt r i = w)) [some (.sh (.list ds)), some (.sh (sieveD sp le)), some (.sh (.int (i : Int))), some (.fl es), some (.sh (.str w)), a5] ?_ ds rows [] ?_ ?_
        · rintro d r ⟨hdr, hrk⟩ R2 acc hR2
          conv => whnf
          rw [hdr]
          conv => whnf
          rw [row_at (by omega)]
          conv => whnf
          refine ⟨dL (by rw [er_vw]; exact d_str _), ?_⟩
          conv => whnf
          rw [er_vw, er_vw, eqv_str]
          cases hc : decide (wAt r i = w) with
          | true => rw [hc] at hR2; exact hR2
          | false => rw [hc] at hR2; exact hR2
        · have h1 := rowsD_each.mp hd
          have : ∀ (ds : List Pl.D) (rows : List Row), EachIs (fun d r => vw d = rowD r) ds rows → (∀ r ∈ rows, r.length = k) → EachIs (fun d r => vw d = rowD r ∧ r.length = k) ds rows := by
            intro ds rows h
            induction h with
            | nil => intro _; exact .nil
            | cons a r ih => intro h; exact .cons ⟨a, h _ (List.mem_cons_self ..)⟩ (ih fun x hx => h x (List.mem_cons_of_mem _ hx))
          exact this ds rows h1 hk
        · intro es2 hes2
          have hrd : rowsD es2 (pickR rows i w) := rowsD_each.mpr (hes2.mono fun _ _ h => h.1)
          conv => whnf
          refine ⟨es2, pickR rows i w, k, sp, le, rfl, hrd, pickR_ne hw, fun r hr => hk r (pickR_mem.mp hr).1, hk2, by omega, by omega, hsp, fun es3 gs3 q1 q2 q3 q4 => ?_⟩
          conv => whnf
          refine ⟨by have := sizeLine_eq; omega, ?_⟩
          refine hR _ ⟨dw ++ [w], rw, es ++ es3, gs ++ gs3, _, _, by rw [e1, List.append_assoc]; rfl, rfl, each_app e3 q1, ?_, ?_, ?_, rfl⟩
          · rw [List.map_append, List.flatMap_append]
            refine e4.append ?_
            rw [List.flatMap_singleton]; exact q2
          · intro g hg
            rcases List.mem_append.mp hg with hg | hg
            · exact e5 g hg
            · exact ⟨(q3 g hg).1, by have := (q3 g hg).2.1; omega, fun r hr => (pickR_mem.mp ((q3 g hg).2.2 r hr)).1⟩
          · rw [List.length_append, List.map_append, List.sum_append]
            simp only [List.map_cons, List.map_nil, List.sum_cons, List.sum_nil]
            omega
theorem C_groups_0 : ∀ os post, ¬ C_groups 0 os post := fun os post ⟨ds, rows, k, sp, le, _, _, h0, _, _, hl, _⟩ => h0 (List.length_eq_zero_iff.mp (Nat.le_zero.mp hl))
end Tx
/-! gathered -/
namespace Pl
open PySem PySem.Spec L2
theorem nubF_old {α : Type} [DecidableEq α] {l : List α} {x : α} (h : x ∈ l) : nubF (l ++ [x]) = nubF l := by
  rw [nubF_snoc]
  unfold nubS
  rw [if_pos (mem_nubF.mpr h)]
theorem nubF_new {α : Type} [DecidableEq α] {l : List α} {x : α} (h : x ∉ l) : nubF (l ++ [x]) = nubF l ++ [x] := by
  rw [nubF_snoc]
  unfold nubS
  rw [if_neg fun z => h (mem_nubF.mp z)]
theorem flatMap_sub {α β : Type} [DecidableEq α] (G : α → List β) {ms : List α} (hm : ms.Nodup) : ∀ {L : List α}, L.Nodup → (∀ m ∈ ms, m ∈ L) → (∀ x ∈ L, x ∉ ms → G x = []) → (ms.flatMap G).Perm (L.flatMap G) := by
  intro L hL hs hz
  have e : L.flatMap G = (L.filter fun x => decide (x ∈ ms)).flatMap G := by
    clear hL hs
    induction L with
    | nil => rfl
    | cons x L ih =>
      rw [List.flatMap_cons, List.filter_cons, ih fun y hy => hz y (List.mem_cons_of_mem _ hy)]
      by_cases h : x ∈ ms
      · rw [if_pos (decide_eq_true h), List.flatMap_cons]
      · rw [if_neg (by simpa using h), hz x (List.mem_cons_self ..) h, List.nil_append]
  rw [e]
  refine List.Perm.flatMap_right _ (perm_of_mem hm (hL.filter _) fun x => ?_)
  rw [List.mem_filter, decide_eq_true_iff]
  exact ⟨fun h => ⟨hs x h, h⟩, fun h => h.2⟩
end Pl
namespace Tx
open PySem PySem.Spec L2 Pl
open PySem.W (EachIs)
def wc (z : Str) : Nat := (Txt.split z " ").length
def kM (m : Nat) : Key := .inl (m : Int)
theorem kM_inj (a b : Nat) (h : kM a = kM b) : a = b := by
  have := inl_inj _ _ h
  omega
def rowsV (ls : List Str) (m : Nat) : Pl.D := .nl ((linesM ls m).map fun z => enL (Txt.split z " "))
def metV (_ : Str) : Pl.D := .bool true
theorem linesM_old {ls : List Str} {x : Str} (h : x ∈ ls) (m : Nat) : linesM (ls ++ [x]) m = linesM ls m := by unfold linesM; rw [nubF_old h]
theorem linesM_new {ls : List Str} {x : Str} (h : x ∉ ls) (m : Nat) : linesM (ls ++ [x]) m = linesM ls m ++ if wc x = m then [x] else [] := by
  unfold linesM
  rw [nubF_new h, List.filter_append]
  congr 1
  unfold wc
  rw [List.filter_cons, List.filter_nil]
  by_cases e : (Txt.split x " ").length = m
  · rw [if_pos e, decide_eq_true e]; rfl
  · rw [if_neg e, decide_eq_false e]; rfl
theorem linesM_len (ls : List Str) (m : Nat) : (linesM ls m).length ≤ ls.length := Nat.le_trans (List.length_filter_le _ _) (nubF_len ls)
theorem rows_get (ls : List Str) (m : Nat) : (assoc ((nubF (ls.map wc)).map kM) ((nubF (ls.map wc)).map (rowsV ls)) (kM m)).getD (.nl []) = rowsV ls m := by
  rw [assoc_map (β := Nat) kM kM_inj]
  by_cases h : m ∈ nubF (ls.map wc)
  · rw [if_pos h]; rfl
  · rw [if_neg h]
    have : linesM ls m = [] := by
      unfold linesM
      refine List.filter_eq_nil_iff.mpr fun z hz e => h (mem_nubF.mpr ?_)
      exact List.mem_map.mpr ⟨z, mem_nubF.mp hz, of_decide_eq_true e⟩
    unfold rowsV
    rw [this]; rfl
theorem rows_put {ls : List Str} {x : Str} (h : x ∉ ls) : dputK ((nubF (ls.map wc)).map kM) (kM (wc x)) = (nubF ((ls ++ [x]).map wc)).map kM ∧
    dputD ((nubF (ls.map wc)).map kM) ((nubF (ls.map wc)).map (rowsV ls)) (kM (wc x)) (rowsV (ls ++ [x]) (wc x)) = (nubF ((ls ++ [x]).map wc)).map (rowsV (ls ++ [x])) := by
  rw [List.map_append, show [x].map wc = [wc x] from rfl, nubF_snoc]
  refine put_map (β := Nat) kM kM_inj _ (rowsV ls) (rowsV (ls ++ [x])) (wc x) fun m _ n => ?_
  unfold rowsV
  rw [linesM_new h, if_neg fun z => n z.symm, List.append_nil]
theorem met_put (ls : List Str) (x : Str) : dputK ((nubF ls).map .inr) (.inr x) = (nubF (ls ++ [x])).map .inr ∧ dputD ((nubF ls).map .inr) ((nubF ls).map metV) (.inr x) (.bool true) = (nubF (ls ++ [x])).map metV := by
  rw [nubF_snoc]
  exact put_map (β := Str) .inr inr_inj _ metV metV x fun _ _ _ => rfl
theorem met_has (ls : List Str) (x : Str) : (assoc ((nubF ls).map (Sum.inr : Str → Key)) ((nubF ls).map metV) (.inr x)).isSome = decide (x ∈ ls) := by
  rw [assoc_map (β := Str) .inr inr_inj]
  by_cases h : x ∈ ls
  · rw [if_pos (mem_nubF.mpr h), decide_eq_true h]; rfl
  · rw [if_neg fun z => h (mem_nubF.mp z), decide_eq_false h]; rfl
theorem rowsV_D (ls : List Str) (m : Nat) : rowsD ((linesM ls m).map fun z => enL (Txt.split z " ")) (rowsM ls m) := by
  unfold rowsD rowsM
  rw [List.map_map, List.map_map]
  rfl
def C_gathered : Con := fun os post => ∃ (ls : List Str) (d : Pl.D) (sp le : Int), os = [.sh (.list (ls.map .str)), .sh d] ∧ (d = sieveD sp le ∨ (d = .none ∧ sp = 3 ∧ le = 2)) ∧ sp ≤ 60 ∧ ls.length ≤ 130 ∧ (∀ z ∈ ls, IsLn 12 z) ∧ post (.fl ((gat sp le ls).map nwPat)) os
theorem gath1 {ls : List Str} {s1 : O} {a6 a7 a8 a9 : Option O} (hl : ls.length ≤ 130) (hz : ∀ z ∈ ls, IsLn 12 z) (D : PEnds) (h : ∀ a4 a5, D.nx [some (.sh (.list (ls.map .str))), some s1, some (.fd ((nubF (ls.map wc)).map kM) ((nubF (ls.map wc)).map (rowsV ls))), some (.fd ((nubF ls).map .inr) ((nubF ls).map metV)), a4, a5, a6, a7, a8, a9]) : ∀ a4 a5,
    r_gathered_4 C_ordered (C_groups fuel) C_ofWords C_joined C_words C_sieveOf D [some (.sh (.list (ls.map .str))), some s1, some (.fd [] []), some (.fd [] []), a4, a5, a6, a7, a8, a9] := by
  intro a4 a5
  refine zFor_of (ds := ls.map .str) (ρ1 := [some (.sh (.list (ls.map .str))), some s1, some (.fd [] []), some (.fd [] []), a4, a5, a6, a7, a8, a9]) (fun K hK => hK) ?_
  refine loop_ind (fun dr ρ => ∃ done rest a4 a5, ls = done ++ rest ∧ dr = rest.map Pl.D.str ∧ ρ = [some (.sh (.list (ls.map .str))), some s1, some (.fd ((nubF (done.map wc)).map kM) ((nubF (done.map wc)).map (rowsV done))), some (.fd ((nubF done).map .inr) ((nubF done).map metV)), a4, a5, a6, a7, a8, a9]) ?_ ?_ _ _ ⟨[], ls, a4, a5, rfl, rfl, rfl⟩
  · rintro ρ ⟨done, rest, a4, a5, e1, e2, rfl⟩
    have e : rest = [] := List.map_eq_nil_iff.mp e2.symm
    subst e
    rw [List.append_nil] at e1
    subst e1
    exact h _ _
  · rintro d dr ρ R ⟨done, rest, a4, a5, e1, e2, rfl⟩ hR
    cases rest with
    | nil => cases e2
    | cons x rest =>
      rw [List.map_cons, List.cons.injEq] at e2
      obtain ⟨rfl, rfl⟩ := e2
      have hx := hz x (by rw [e1]; simp)
      have xl := hx.len
      have hdl : done.length ≤ 130 := by have := congrArg List.length e1; rw [List.length_append] at this; omega
      have e3 : ls = (done ++ [x]) ++ rest := by rw [e1, List.append_assoc]; rfl
      conv => whnf
      rw [met_has]
      by_cases hm : x ∈ done
      · rw [decide_eq_true hm]
        refine hR _ ⟨done ++ [x], rest, some (.sh (.str x)), a5, e3, rfl, ?_⟩
        rw [nubF_old hm, List.map_append, show [x].map wc = [wc x] from rfl, nubF_old (List.mem_map_of_mem hm)]
        have : rowsV (done ++ [x]) = rowsV done := by
          funext m
          unfold rowsV
          rw [linesM_old hm]
        rw [this]; rfl
      · rw [decide_eq_false hm]
        obtain ⟨p1, p2⟩ := met_put done x
        conv => whnf
        refine ⟨by rw [List.length_map]; have := nubF_len done; exact small (by omega), ?_⟩
        conv => whnf
        refine ⟨x, rfl, by omega, ?_⟩
        have hwc : ((((Txt.split x " ").map Pl.D.str).length : Nat) : Int) = ((wc x : Nat) : Int) := by rw [List.length_map]; rfl
        obtain ⟨r1, r2⟩ := rows_put hm
        have hget := rows_get done (wc x)
        have hadd : rowsV (done ++ [x]) (wc x) = .nl ((linesM done (wc x)).map (fun z => enL (Txt.split z " ")) ++ [enL (Txt.split x " ")]) := by
          unfold rowsV
          rw [linesM_new hm, if_pos rfl, List.map_append]; rfl
        have hml := linesM_len done (wc x)
        conv => whnf
        rw [hwc]
        have hget' : (assoc ((nubF (done.map wc)).map kM) ((nubF (done.map wc)).map (rowsV done)) (.inl ((wc x : Nat) : Int))).getD (.nl []) = .nl ((linesM done (wc x)).map fun z => enL (Txt.split z " ")) := hget
        rw [hget']
        conv => whnf
        refine ⟨by rw [List.length_map]; show _ + 1 ≤ _; have := sizeLine_eq; omega, ?_⟩
        conv => whnf
        rw [hwc]
        refine ⟨by rw [List.length_map]; have := nubF_len (done.map wc); rw [List.length_map] at this; exact small (by omega), ?_⟩
        rw [hadd] at r2
        refine hR _ ⟨done ++ [x], rest, some (.sh (.str x)), some (.sh (.nl ((Txt.split x " ").map .str))), e3, rfl, ?_⟩
        rw [← p1, ← p2, ← r1, ← r2]
        rfl

theorem IsLn.row {n : Nat} {z : Str} (h : IsLn n z) : (Txt.split z " ") ≠ [] ∧ (Txt.split z " ").length ≤ n ∧ (∀ w ∈ Txt.split z " ", IsWd w) ∧ Txt.join " " (Txt.split z " ") = z := by
  obtain ⟨ws, e1, e2, e3, e4, e5⟩ := h.split
  rw [e1]
  exact ⟨e3, e4, e5, e2⟩
theorem rows_ix {ls : List Str} {m : Nat} (h : m ∈ nubF (ls.map wc)) : assoc ((nubF (ls.map wc)).map kM) ((nubF (ls.map wc)).map (rowsV ls)) (.inl (m : Int)) = some (rowsV ls m) := by
  show assoc _ _ (kM m) = _
  rw [assoc_map (β := Nat) kM kM_inj, if_pos h]
theorem linesM_ne {ls : List Str} {m : Nat} : linesM ls m ≠ [] ↔ m ∈ ls.map wc := by
  unfold linesM
  constructor
  · intro h
    obtain ⟨z, hz⟩ := List.exists_mem_of_ne_nil _ h
    obtain ⟨h1, h2⟩ := List.mem_filter.mp hz
    exact List.mem_map.mpr ⟨z, mem_nubF.mp h1, of_decide_eq_true h2⟩
  · intro h e
    obtain ⟨z, hz, rfl⟩ := List.mem_map.mp h
    have : z ∈ (nubF ls).filter fun y => decide ((Txt.split y " ").length = wc z) := List.mem_filter.mpr ⟨mem_nubF.mpr hz, decide_eq_true rfl⟩
    rw [e] at this; cases this
/-- a row of some lines -/
def okRow (r : Row) : Prop := r ≠ [] ∧ r.length ≤ 12 ∧ ∀ w ∈ r, IsWd w
theorem rowsM_ok {ls : List Str} {m : Nat} (hz : ∀ z ∈ ls, IsLn 12 z) : ∀ r ∈ rowsM ls m, okRow r := by
  intro r hr
  unfold rowsM linesM at hr
  obtain ⟨z, h1, rfl⟩ := List.mem_map.mp hr
  have h := (hz z (mem_nubF.mp (List.mem_filter.mp h1).1)).row
  exact ⟨h.1, h.2.1, h.2.2.1⟩
theorem okRow.join {r : Row} (h : okRow r) : IsLn 12 (Txt.join " " r) ∧ Txt.split (Txt.join " " r) " " = r := ⟨⟨r, rfl, h.1, h.2.1, h.2.2⟩, split_ln h.1 fun w hw => wd_blank (h.2.2 w hw)⟩
theorem joinR_ok {g : List Row} (h0 : g ≠ []) (h : ∀ r ∈ g, okRow r) : OkPat (joinR g) := by
  cases g with
  | nil => exact absurd rfl h0
  | cons r t =>
    have hr := h r (List.mem_cons_self ..)
    exact joinP_ok (ofWs_ok (by have := hr.2.1; omega) hr.2.2)
theorem grpD_cons {e : Pl.D} {r : Row} {t : List Row} (h : grpD e (r :: t)) : ∃ ds, vw e = .list ds ∧ EachIs (fun d r => vw d = rowD r) ds (r :: t) := by
  obtain ⟨ds, h1, h2⟩ := h
  exact ⟨ds, h1, rowsD_each.mp h2⟩
theorem pat_dw (ws : List Str) : vw (.nl ((ofWs ws).map enP)) = enPat (ofWs ws) := rfl
theorem h_gathered : ∀ os post, C_gathered os post → os.length = 2 ∧ r_gathered C_ordered (C_groups fuel) C_ofWords C_joined C_words C_sieveOf (dEnds [] os post) (start0 N_gathered.length os) := by
  rintro os post ⟨ls, d, sp, le, rfl, hd, hsp, hl, hz, k⟩
  refine ⟨rfl, ?_⟩
  have hvd : vw d = d := by rcases hd with rfl | ⟨rfl, _⟩ <;> rfl
  conv => whnf
  refine ⟨d, sp, le, by rw [hvd]; rfl, ?_, ?_⟩
  · rcases hd with rfl | ⟨rfl, h⟩
    · exact .inl rfl
    · exact .inr ⟨rfl, h⟩
  refine gath1 (s1 := .sh (sieveD sp le)) hl hz _ (fun a4 a5 => ?_) none none
  have hms : ∀ m ∈ nubF (ls.map wc), m ∈ List.range' 1 12 := by
    intro m hm
    obtain ⟨z, hz', rfl⟩ := List.mem_map.mp (mem_nubF.mp hm)
    have h := (hz z hz').row
    rw [List.mem_range'_1]
    have := List.length_pos_iff.mpr h.1
    unfold wc
    omega
  have hmn := nubF_nodup (ls.map wc)
  have hml : (nubF (ls.map wc)).length ≤ 130 := by have := nubF_len (ls.map wc); rw [List.length_map] at this; omega
  show zFor (iKy 2) (gNm 7) (r_gathered_6f C_ordered (C_groups fuel) C_ofWords C_joined C_words C_sieveOf) { nx := zSeq (r_gathered_7 C_ordered (C_groups fuel) C_ofWords C_joined C_words C_sieveOf) zNx (dEnds [] [.sh (.list (ls.map .str)), .sh d] post), rt := (dEnds [] [.sh (.list (ls.map .str)), .sh d] post).rt } [some (.sh (.list (ls.map .str))), some (.sh (sieveD sp le)), some (.fd ((nubF (ls.map wc)).map kM) ((nubF (ls.map wc)).map (rowsV ls))), some (.fd ((nubF ls).map .inr) ((nubF ls).map metV)), a4, a5, some (.fl []), none, none, none]
  refine zFor_of (ds := ((nubF (ls.map wc)).map kM).map unkey) (ρ1 := [some (.sh (.list (ls.map .str))), some (.sh (sieveD sp le)), some (.fr ((nubF (ls.map wc)).map kM) ((nubF (ls.map wc)).map (rowsV ls))), some (.fd ((nubF ls).map .inr) ((nubF ls).map metV)), a4, a5, some (.fl []), none, none, none]) (fun K hK => hK) ?_
  have hix : ∀ m ∈ nubF (ls.map wc), assoc ((nubF (ls.map wc)).map kM) ((nubF (ls.map wc)).map (rowsV ls)) (.inl (m : Int)) = some (rowsV ls m) := fun m hm => rows_ix hm
  have eun : ((nubF (ls.map wc)).map kM).map unkey = (nubF (ls.map wc)).map fun m : Nat => Pl.D.int (m : Int) := by rw [List.map_map]; rfl
  rw [eun]
  generalize hks : (nubF (ls.map wc)).map kM = ks at hix
  generalize hvs : (nubF (ls.map wc)).map (rowsV ls) = vs at hix
  have hG : ∀ (L : List Nat), L.Nodup → (∀ m ∈ nubF (ls.map wc), m ∈ L) → ((nubF (ls.map wc)).flatMap (gatM sp le ls)).Perm (L.flatMap (gatM sp le ls)) := fun L hL hs => flatMap_sub _ hmn hL hs fun m _ hm => by
    unfold gatM
    rw [if_pos]
    apply Decidable.byContradiction
    intro n
    exact hm (mem_nubF.mpr (linesM_ne.mp n))
  have hmem : ∀ m ∈ nubF (ls.map wc), linesM ls m ≠ [] := fun m hm => linesM_ne.mpr (mem_nubF.mp hm)
  generalize nubF (ls.map wc) = ms at hms hmn hml hix hG hmem ⊢
  refine loop_ind (fun dr ρ => ∃ dm rm ps a7 a8 a9, ms = dm ++ rm ∧ dr = rm.map (fun m : Nat => Pl.D.int (m : Int)) ∧ (ps : List Pat).Perm (dm.flatMap (gatM sp le ls)) ∧ (∀ p ∈ ps, OkPat p) ∧ ps.length ≤ 130 * dm.length ∧
    ρ = [some (.sh (.list (ls.map .str))), some (.sh (sieveD sp le)), some (.fr ks vs), some (.fd ((nubF ls).map .inr) ((nubF ls).map metV)), a4, a5, some (.fl (ps.map nwPat)), a7, a8, a9]) ?_ ?_ _ _ ⟨[], ms, [], none, none, none, rfl, rfl, List.Perm.refl _, by simp, Nat.zero_le _, rfl⟩
  · rintro ρ ⟨dm, rm, ps, a7, a8, a9, e1, e2, e3, e4, e5, rfl⟩
    have e : rm = [] := List.map_eq_nil_iff.mp e2.symm
    subst e
    rw [List.append_nil] at e1
    subst e1
    conv => whnf
    refine ⟨ps.map nwPat, ps, rfl, pats_nw ps, e4, by omega, ?_⟩
    have hp : ps.Perm ((List.range' 1 12).flatMap (gatM sp le ls)) := e3.trans (hG _ List.nodup_range' hms)
    rw [inOrder_of_perm hp]
    exact k
  · rintro dd dr ρ R ⟨dm, rm, ps, a7, a8, a9, e1, e2, e3, e4, e5, rfl⟩ hR
    cases rm with
    | nil => cases e2
    | cons m rm =>
      rw [List.map_cons, List.cons.injEq] at e2
      obtain ⟨rfl, rfl⟩ := e2
      have hm : m ∈ ms := by rw [e1]; simp
      have hdm : dm.length < 130 := by have := congrArg List.length e1; rw [List.length_append, List.length_cons] at this; omega
      have hne := hmem m hm
      have hrl : (rowsM ls m).length ≤ 130 := by have := linesM_len ls m; unfold rowsM; rw [List.length_map]; omega
      have hrok := rowsM_ok (m := m) hz
      have hr0 : rowsM ls m ≠ [] := fun e => hne (List.map_eq_nil_iff.mp e)
      have egat : gatM sp le ls m = grpP sp le fuel (rowsM ls m) := if_neg hne
      have hlen12 : m ≤ 1000 := by
        obtain ⟨r, hr⟩ := List.exists_mem_of_ne_nil _ hr0
        have h1 := rowsM_len r hr
        have h2 := (hrok r hr).2.1
        omega
      have hrd := rowsV_D ls m
      have hrv : rowsV ls m = .nl ((linesM ls m).map fun z => enL (Txt.split z " ")) := rfl
      generalize (linesM ls m).map (fun z => enL (Txt.split z " ")) = rds at hrd hrv
      conv => whnf
      rw [hix m hm, hrv]
      conv => whnf
      refine ⟨rds, rowsM ls m, m, sp, le, rfl, hrd, hr0, rowsM_len, hlen12, hrl, by decide, hsp, fun es gs q1 q2 q3 q4 => ?_⟩
      conv => whnf
      refine loop_ind (fun dr2 ρ => ∃ dg rg ps2 a8 a9, gs = dg ++ rg ∧ EachIs grpD dr2 rg ∧ ps2 = ps ++ (dg : List (List Row)).map joinR ∧ (∀ p ∈ ps2, OkPat p) ∧
        ρ = [some (.sh (.list (ls.map .str))), some (.sh (sieveD sp le)), some (.fr ks vs), some (.fd ((nubF ls).map .inr) ((nubF ls).map metV)), a4, a5, some (.fl (ps2.map nwPat)), some (.sh (.int (m : Int))), a8, a9]) ?_ ?_ _ _ ⟨[], gs, ps, a8, a9, rfl, q1, by simp, e4, rfl⟩
      · rintro ρ ⟨dg, rg, ps2, a8, a9, f1, f2, f3, f4, rfl⟩
        cases f2
        rw [List.append_nil] at f1
        subst f1
        refine hR _ ⟨dm ++ [m], rm, ps2, _, _, _, by rw [e1, List.append_assoc]; rfl, rfl, ?_, f4, ?_, rfl⟩
        · rw [f3, List.flatMap_append, List.flatMap_singleton, egat]
          exact e3.append q2
        · rw [f3, List.length_append, List.length_map, List.length_append, List.length_singleton, ← each_len q1]
          omega
      · rintro e dr2 ρ R2 ⟨dg, rg, ps2, a8, a9, f1, f2, f3, f4, rfl⟩ hR2
        cases f2 with
        | @cons _ g _ rg hg f2 =>
          have hgm : g ∈ gs := by rw [f1]; simp
          obtain ⟨g0, ggl, gsub⟩ := q3 g hgm
          have gok : ∀ r ∈ g, okRow r := fun r hr => hrok r (gsub r hr)
          have glen : ∀ r ∈ g, r.length = m := fun r hr => rowsM_len r (gsub r hr)
          have hps2 : ps2.length ≤ 130 * 130 + 130 := by
            have h1 := congrArg List.length f1
            rw [List.length_append, ← each_len q1] at h1
            rw [f3, List.length_append, List.length_map]; omega
          obtain ⟨gds, hv, hgd⟩ := hg
          have hgl : gds.length = g.length := len_of_map hgd
          have hggl : g.length ≤ 100000 := by omega
          conv => whnf
          rw [hv]
          conv => whnf
          refine ⟨by rw [hgl]; exact Nat.le_of_lt (small (by omega)), ?_⟩
          refine lc_mt vw rowD (fun r => some (nwPat (ofWs r))) okRow [some (.sh (.list (ls.map .str))), some (.sh (sieveD sp le)), some (.fr ks vs), some (.fd ((nubF ls).map .inr) ((nubF ls).map metV)), a4, a5, some (.fl (ps2.map nwPat)), some (.sh (.int (m : Int))), some (.sh e), a9] ?_ gds g [] hgd gok ?_
          · rintro d2 r hdr hor R3 acc hR3
            obtain ⟨j1, j2⟩ := hor.join
            have jl := j1.len
            conv => whnf
            rw [hdr]
            conv => whnf
            rw [strsOf_map]
            conv => whnf
            have h2 := sum_le 1000 r fun w hw => (hor.2.2 w hw).2.1
            refine ⟨by have := hor.2.1; show _ + r.length * 1 ≤ 16777216; omega, ?_⟩
            conv => whnf
            refine ⟨Txt.join " " r, rfl, by omega, by rw [j2]; have := hor.2.1; omega, ?_⟩
            rw [j2]
            exact hR3
          · rw [fm_some, List.nil_append]
            conv => whnf
            have hjo : OkPat (joinR g) := joinR_ok g0 gok
            cases g with
            | nil => exact absurd rfl g0
            | cons r t =>
              refine ⟨(r :: t).map (fun r => nwPat (ofWs r)), ofWs r, t.map ofWs, rfl, ?_, ?_, ?_, ?_, ?_⟩
              · unfold pats
                rw [List.map_map, List.map_cons, List.map_cons, List.map_map]; rfl
              · intro q hq
                rw [← List.map_cons (f := ofWs)] at hq
                obtain ⟨r', hr', rfl⟩ := List.mem_map.mp hq
                have := gok r' hr'
                exact ofWs_ok (by have := this.2.1; omega) this.2.2
              · intro q hq
                obtain ⟨r', hr', rfl⟩ := List.mem_map.mp hq
                unfold ofWs
                rw [List.length_map, List.length_map, glen r' (List.mem_cons_of_mem _ hr'), glen r (List.mem_cons_self ..)]
              · rw [List.length_map]; rw [List.length_cons] at ggl; omega
              · conv => whnf
                refine ⟨by rw [List.length_map]; exact small (by omega), ?_⟩
                refine hR2 _ ⟨dg ++ [r :: t], rg, ps2 ++ [joinR (r :: t)], some (.sh e), a9, by rw [f1, List.append_assoc]; rfl, f2, ?_, ?_, ?_⟩
                · rw [f3, List.map_append, List.append_assoc]; rfl
                · intro p hp
                  rcases List.mem_append.mp hp with hp | hp
                  · exact f4 p hp
                  · rw [List.mem_singleton.mp hp]; exact hjo
                · rw [List.map_append]; rfl
end Tx
/-! the law's own: fits, looseness, falls, sieve -/
namespace Pl
open PySem PySem.Spec L2
open PySem.W in
theorem minOf_spec {α : Type} [DecidableEq α] [DatumOrd α] : ∀ (xs : List α) (x : α), minOf x xs ∈ x :: xs ∧ ∀ y ∈ x :: xs, DatumOrd.lt y (minOf x xs) = false
  | [], x => ⟨by simp [minOf], fun y hy => by rw [List.mem_singleton.mp hy]; exact (DatumOrd.lt_eq x x).symm.trans (dataLt_self _)⟩
  | z :: xs, x => by
    have T := dle_total α
    have tr : ∀ {a b c : α}, DatumOrd.lt b a = false → DatumOrd.lt c b = false → DatumOrd.lt c a = false := fun {a b c} h1 h2 => by
      have := T.trans a b c (by rw [h1]; rfl) (by rw [h2]; rfl)
      simpa using this
    have e : minOf x (z :: xs) = minOf (if DatumOrd.lt z x = true then z else x) xs := rfl
    rw [e]
    by_cases h : DatumOrd.lt z x = true
    · rw [if_pos h]
      obtain ⟨i1, i2⟩ := minOf_spec xs z
      refine ⟨List.mem_cons_of_mem _ i1, fun y hy => ?_⟩
      rcases List.mem_cons.mp hy with rfl | hy
      · have a1 := i2 z (List.mem_cons_self ..)
        have a2 : DatumOrd.lt y z = false := by
          have := T.total z y
          rw [h] at this
          simpa using this
        exact tr a1 a2
      · exact i2 y hy
    · rw [if_neg h]
      obtain ⟨i1, i2⟩ := minOf_spec xs x
      have h : DatumOrd.lt z x = false := by simpa using h
      refine ⟨?_, fun y hy => ?_⟩
      · rcases List.mem_cons.mp i1 with i | i
        · rw [i]; exact List.mem_cons_self ..
        · exact List.mem_cons_of_mem _ (List.mem_cons_of_mem _ i)
      · rcases List.mem_cons.mp hy with rfl | hy
        · exact i2 y (List.mem_cons_self ..)
        · rcases List.mem_cons.mp hy with rfl | hy
          · exact tr (i2 x (List.mem_cons_self ..)) h
          · exact i2 y (List.mem_cons_of_mem _ hy)
end Pl
namespace Pl
open PySem PySem.Spec L2
open PySem.W (EachIs)
/-- a comprehension that makes something of some of the things -/
theorem lc_sel {α : Type} {g : TPg} {tt : TPt} {te : TPe} {vs : List Nat} {Q : O → Ev → Prop} (P : D → α → Prop) (c : α → Bool) (G : D → α → Prop) (ρ : Ev)
    (hs : ∀ d x, P d x → ∀ (R : Ev → List D → Prop) acc, (if c x = true then ∀ y, G y x → R ρ (acc ++ [y]) else R ρ acc) → g d (wipeE ρ vs) fun ρ1 => tt ρ1 fun b ρ2 => match b with
      | true => te ρ2 fun y ρ3 => R (back ρ ρ3 vs) (acc ++ [y])
      | false => R (back ρ ρ2 vs) acc) : ∀ (ds : List D) (xs : List α) (acc : List D), EachIs P ds xs → (∀ es, EachIs G es (xs.filter c) → Q (.fl (acc ++ es)) ρ) → lcR g tt te vs Q ds ρ acc
  | [], _, acc, .nil, q => by
    have := q [] .nil
    rw [List.append_nil] at this
    exact this
  | d :: ds, _, acc, .cons (b := x) (bs := xs) h t, q => by
    refine hs d x h (lcR g tt te vs Q ds) acc ?_
    cases e : c x with
    | true =>
      rw [if_pos rfl]
      intro y hy
      refine lc_sel P c G ρ hs ds xs _ t fun es he => ?_
      rw [List.append_assoc]
      refine q (y :: es) ?_
      rw [List.filter_cons, if_pos e]
      exact .cons hy he
    | false =>
      rw [if_neg (by decide)]
      refine lc_sel P c G ρ hs ds xs _ t fun es he => ?_
      refine q es ?_
      rw [List.filter_cons, if_neg (by rw [e]; decide)]
      exact he
theorem each_and {α : Type} {e : α → D} {P : α → Prop} : ∀ {ds : List D} {xs : List α}, ds.map vw = xs.map e → (∀ x ∈ xs, P x) → EachIs (fun d x => vw d = e x ∧ P x) ds xs
  | [], [], _, _ => .nil
  | [], _ :: _, h, _ => by cases h
  | _ :: _, [], h, _ => by cases h
  | d :: ds, x :: xs, h, k => by
    rw [List.map_cons, List.map_cons, List.cons.injEq] at h
    exact .cons ⟨h.1, k x (List.mem_cons_self ..)⟩ (each_and h.2 fun y hy => k y (List.mem_cons_of_mem _ hy))
end Pl
namespace Tx
open PySem PySem.Spec L2 Pl
theorem h_lfitsPt : ∀ os post, C_fitsPt os post → os.length = 2 ∧ r__law_fits_part C_kind (dEnds [] os post) (start0 N__law_fits_part.length os) := by
  rintro os post ⟨p, w, rfl, hl, k⟩
  refine ⟨rfl, ?_⟩
  have hw : w.length ≤ sizeLine := by have := sizeLine_eq; omega
  cases p with
  | w s =>
    conv => whnf
    refine ⟨dR (d_str _), ?_⟩
    conv => whnf
    refine ⟨dR (d_str _), ?_⟩
    rw [er_vw, er_vw, eqv_str]
    exact k
  | h j =>
    conv => whnf
    refine ⟨dR (d_str _), ?_⟩
    conv => whnf
    refine ⟨w, rfl, hw, ?_⟩
    conv => whnf
    refine ⟨Nat.le_trans (Nat.min_le_right _ _) (by rw [er_vw]; exact d_str _), ?_⟩
    have e : inD false (er (vw (.str j.str))) (([.str "any", .str (lkind w)] : List Pl.D).map er) = fitsPt (.h j) w := by
      show ((er (.str "any")).eqv (er (vw (.str j.str))) || ((er (.str (lkind w))).eqv (er (vw (.str j.str))) || false)) = (decide (j = .any) || decide (j.str = lkind w))
      rw [er_vw, eqv_str, eqv_str, Bool.or_false]
      congr 1
      · refine decide_eq_decide.mpr ⟨fun h => ?_, fun h => by rw [h]; rfl⟩
        cases j
        · exact absurd h (by decide)
        · exact absurd h (by decide)
        · rfl
      · exact decide_eq_decide.mpr ⟨fun h => h.symm, fun h => h.symm⟩
    rw [e]
    exact k
theorem zip_fits : ∀ {p : Pat} {ws : List Str}, p.length = ws.length → ((p.zip ws).filter fun x => !fitsPt x.1 x.2).isEmpty = fitsWs p ws
  | [], [], _ => rfl
  | [], _ :: _, h => by cases h
  | _ :: _, [], h => by cases h
  | a :: p, w :: ws, h => by
    show (((a, w) :: p.zip ws).filter fun x => !fitsPt x.1 x.2).isEmpty = (fitsPt a w && fitsWs p ws)
    rw [List.filter_cons, ← zip_fits (p := p) (ws := ws) (by simpa using h)]
    cases fitsPt a w <;> rfl
theorem zip_pw : ∀ (p : Pat) (ws : List Str), zipD (p.map enP) (ws.map .str) = (p.zip ws).map fun x => Pl.D.tuple [enP x.1, .str x.2]
  | [], _ => rfl
  | _ :: _, [] => rfl
  | a :: as, b :: bs => by
    show Pl.D.tuple [enP a, .str b] :: zipD (as.map enP) (bs.map .str) = _
    rw [zip_pw as bs]; rfl
def C_lfits : Con := fun os post => ∃ (p : Pat) (z : Str), os = [.sh (enPat p), .sh (.str z)] ∧ z.length ≤ 100000 ∧ OkPat p ∧ post (.sh (.bool (fitsP p z))) os
theorem h_lfits : ∀ os post, C_lfits os post → os.length = 2 ∧ r__law_fits C_fitsPt (dEnds [] os post) (start0 N__law_fits.length os) := by
  rintro os post ⟨p, z, rfl, hl, hok, k⟩
  refine ⟨rfl, ?_⟩
  conv => whnf
  refine ⟨by decide, ?_⟩
  conv => whnf
  refine ⟨by have := sizeLine_eq; omega, ?_⟩
  have hsz : ∀ w ∈ Txt.split z " ", w.length ≤ 1000000 := fun w hw => Nat.le_trans (PyProof.Rows.part_short hw) (by omega)
  have hpz : ((p.zip (Txt.split z " "))).length ≤ sizeLine := by rw [List.length_zip]; have := hok.1; exact Nat.le_of_lt (small (by omega))
  unfold fitsP at k
  revert k hsz hpz
  generalize Txt.split z " " = ws
  intro k hsz hpz
  conv => whnf
  refine ⟨dR (d_int _), ?_⟩
  conv => whnf
  rw [er_vw, er_vw, eqv_int]
  by_cases hlen : ws.length = p.length
  · have e' : decide (((List.map Pl.D.str ws).length : Int) = ((List.map enP p).length : Int)) = true := by
      rw [List.length_map, List.length_map, hlen]; simp
    rw [e']
    conv => whnf
    refine ⟨by rw [zip_pw, List.length_map]; exact hpz, ?_⟩
    rw [zip_pw]
    refine lc_mt id (fun x : Pt × Str => Pl.D.tuple [enP x.1, .str x.2]) (fun x => if (!fitsPt x.1 x.2) = true then some (.int 1) else none) (fun x => x.2.length ≤ 1000000) [some (.sh (enPat p)), some (.sh (.str z)), some (.sh (.nl (ws.map .str))), none, none] ?_ _ (p.zip ws) _ (by rw [List.map_id]) (fun x hx => hsz x.2 (List.of_mem_zip hx).2) ?_
    · rintro d ⟨a, w⟩ hd hw R acc hR
      have hd : d = .tuple [enP a, .str w] := hd
      subst hd
      have hv : vw (enP a) = enP a := by cases a <;> rfl
      conv => whnf
      refine ⟨a, w, by rw [hv]; rfl, hw, ?_⟩
      conv => whnf
      have hR : R [some (.sh (enPat p)), some (.sh (.str z)), some (.sh (.nl (ws.map .str))), none, none] (acc ++ (if (!fitsPt a w) = true then some (Pl.D.int 1) else none).toList) := hR
      cases hf : fitsPt a w with
      | true => rw [hf, if_neg (by decide)] at hR; rw [show (none : Option Pl.D).toList = [] from rfl, List.append_nil] at hR; exact hR
      | false => rw [hf] at hR; exact hR
    · have e : (p.zip ws).filterMap (fun x => if (!fitsPt x.1 x.2) = true then some (Pl.D.int 1) else none) = ((p.zip ws).filter fun x => !fitsPt x.1 x.2).map fun _ => Pl.D.int 1 := by
        induction p.zip ws with
        | nil => rfl
        | cons x l ih =>
          rw [List.filterMap_cons, List.filter_cons, ih]
          cases fitsPt x.1 x.2 <;> rfl
      rw [e, List.nil_append]
      conv => whnf
      refine ⟨dR d_nil, ?_⟩
      rw [er_vw, er_vw, eqv_nil, List.isEmpty_map, zip_fits hlen.symm]
      exact k
  · have e' : decide (((List.map Pl.D.str ws).length : Int) = ((List.map enP p).length : Int)) = false := by
      rw [List.length_map, List.length_map]; simp; omega
    rw [e']
    have ef : fitsWs p ws = false := by
      cases h : fitsWs p ws with
      | false => rfl
      | true => exact absurd (fitsWs_len h).symm hlen
    rw [ef] at k
    exact k
theorem h_lloo : ∀ os post, C_loo os post → os.length = 1 ∧ r__law_loose (dEnds [] os post) (start0 N__law_loose.length os) := by
  rintro os post ⟨p, rfl, ⟨hl, hp⟩, k⟩
  refine ⟨rfl, ?_⟩
  conv => whnf
  refine loop_ind (fun ds ρ => ∃ done rest a2, p = done ++ rest ∧ ds = rest.map enP ∧ ρ = [some (.sh (enPat p)), some (.fl ((loo (done : Pat)).map .int)), a2]) ?_ ?_ _ _ ⟨[], p, none, rfl, rfl, rfl⟩
  · rintro ρ ⟨done, rest, a2, e1, e2, rfl⟩
    have e : rest = [] := List.map_eq_nil_iff.mp e2.symm
    subst e
    rw [List.append_nil] at e1
    subst e1
    exact k
  · rintro d ds ρ R ⟨done, rest, a2, e1, e2, rfl⟩ hR
    cases rest with
    | nil => cases e2
    | cons x rest =>
      rw [List.map_cons, List.cons.injEq] at e2
      obtain ⟨rfl, rfl⟩ := e2
      have hlen : done.length < 1000000 := by have := congrArg List.length e1; rw [List.length_append, List.length_cons] at this; omega
      have fin : R [some (.sh (enPat p)), some (.fl ((loo done).map .int ++ [.int (looPt x)])), some (.sh (enP x))] := hR _ ⟨done ++ [x], rest, _, by rw [e1, List.append_assoc]; rfl, rfl, by unfold loo; rw [List.map_append, List.map_append]; rfl⟩
      have hll : ((loo done).map Pl.D.int).length < sizeLine := by unfold loo; rw [List.length_map, List.length_map]; exact small (by omega)
      cases x with
      | w s =>
        conv => whnf
        refine ⟨dR (d_str _), ?_⟩
        conv => whnf
        refine ⟨dR (d_str _), ?_⟩
        conv => whnf
        exact ⟨hll, fin⟩
      | h j =>
        conv => whnf
        refine ⟨dR (d_str _), ?_⟩
        conv => whnf
        refine ⟨dR (d_str _), ?_⟩
        cases j
        all_goals
          conv => whnf
          exact ⟨hll, fin⟩

/-! the law's falls -/
abbrev K3 := PySem.W.T3 (List Int) (Int × List K2) (List (Str × Str))
def key3 (p : Pat) : K3 := ⟨loo p, f2 p, p.map ec⟩
open PySem.W in
theorem key3_lt {p m : Pat} (h : DatumOrd.lt (key3 p) (key3 m) = false) : flt p m = false := by
  have h : (if loo p = loo m then (if f2 p = f2 m then DatumOrd.lt (p.map ec) (m.map ec) else DatumOrd.lt (f2 p) (f2 m)) else DatumOrd.lt (loo p) (loo m)) = false := h
  rw [flt_eq]
  by_cases e : loo p = loo m
  · rw [if_pos e] at h ⊢
    by_cases e2 : f2 p = f2 m
    · rw [f2_inj e2]; exact plt_self m
    · rw [if_neg e2, f_lt] at h; exact h
  · rw [if_neg e] at h ⊢
    exact h
def it3 (p : Pat) (d : Pl.D) : Pl.D := .tuple [.nl ((loo p).map .int), plD' p, d]
theorem er_it3 {p : Pat} {d : Pl.D} (h : vw d = enPat p) : er (it3 p d) = PySem.W.Datum.toD (key3 p) := by
  show PyData.tuple [er (.nl ((loo p).map .int)), er (plD' p), er d] = .tuple [_, _, _]
  rw [er_pat h]
  have e1 : er (.nl ((loo p).map .int)) = PySem.W.Datum.toD (loo p) := er_ints _
  have e2 : er (plD' p) = PySem.W.Datum.toD (f2 p) := by
    show PyData.tuple [.int p.length, er (.nl (p.map plP'))] = _
    rw [er_map er_pl']; rfl
  rw [e1, e2]; rfl
def C_lfalls : Con := fun os post => ∃ (z : Str) (ds : List Pl.D) (ps : List Pat), os = [.sh (.str z), .sh (.list ds)] ∧ z.length ≤ 100000 ∧ pats ds ps ∧ (∀ p ∈ ps, OkPat p) ∧ ps.length ≤ 100000 ∧ (match falls z ps with
  | none => post (.sh .none) os
  | some m => post (.fl (m.map enP)) os)
open PySem.W (EachIs) in
theorem h_lfalls : ∀ os post, C_lfalls os post → os.length = 2 ∧ r__law_falls C_lfits C_loo C_lplace (dEnds [] os post) (start0 N__law_falls.length os) := by
  rintro os post ⟨z, ds, ps, rfl, hz, hd, hp, hl, k⟩
  refine ⟨rfl, ?_⟩
  conv => whnf
  refine ⟨by rw [len_of_map hd]; exact Nat.le_of_lt (small (by omega)), ?_⟩
  refine lc_sel (fun d p => vw d = enPat p ∧ OkPat p) (fun p => fitsP p z) (fun it p => ∃ d, vw d = enPat p ∧ it = it3 p d) [some (.sh (.str z)), some (.sh (.list ds)), none, none] ?_ ds ps [] ?_ ?_
  · rintro d p ⟨hdp, hok⟩ R acc hR
    conv => whnf
    refine ⟨p, z, by rw [hdp]; rfl, hz, hok, ?_⟩
    conv => whnf
    cases hf : fitsP p z with
    | false => rw [hf] at hR; exact hR
    | true =>
      rw [hf, if_pos rfl] at hR
      conv => whnf
      refine ⟨p, by rw [hdp]; rfl, hok, ?_⟩
      conv => whnf
      refine ⟨p, by rw [hdp]; rfl, hok, ?_⟩
      exact hR (it3 p d) ⟨d, hdp, rfl⟩
  · exact each_and hd hp
  · intro its hits
    rw [List.nil_append]
    have hfs : ∀ q, q ∈ ps.filter (fun p => fitsP p z) ↔ q ∈ ps ∧ fitsP q z = true := fun q => List.mem_filter
    have hfl : (ps.filter fun p => fitsP p z).length ≤ ps.length := List.length_filter_le ..
    generalize ps.filter (fun p => fitsP p z) = fs at hits hfs hfl
    conv => whnf
    refine ⟨dR d_nil, ?_⟩
    conv => whnf
    cases hits with
    | nil =>
      have hn : falls z ps = none := falls_eq fun p h => by
        cases e : fitsP p z with
        | false => rfl
        | true => have := (hfs p).mpr ⟨h, e⟩; cases this
      rw [hn] at k
      exact k
    | @cons it p its fs h1 h2 =>
      have e0 : (er (.nl (it :: its))).eqv (er (.nl [])) = false := eqv_nil (it :: its)
      rw [show er (.list (it :: its)) = er (.nl (it :: its)) from rfl, er_vw, e0]
      have emap : ∀ {its : List Pl.D} {fs : List Pat}, EachIs (fun (it : Pl.D) (p : Pat) => ∃ d, vw d = enPat p ∧ it = it3 p d) its fs → its.map er = (fs.map key3).map PySem.W.Datum.toD := by
        intro its fs h
        induction h with
        | nil => rfl
        | cons a _ ih =>
          obtain ⟨d, h1, rfl⟩ := a
          rw [List.map_cons, List.map_cons, List.map_cons, ih, er_it3 h1]
      have eall := emap (.cons h1 h2)
      have e1 : er it = PySem.W.Datum.toD (key3 p) := by
        obtain ⟨d, h1, rfl⟩ := h1
        exact er_it3 h1
      have e2 := emap h2
      have emem : ∀ {its : List Pl.D} {fs : List Pat}, EachIs (fun (it : Pl.D) (p : Pat) => ∃ d, vw d = enPat p ∧ it = it3 p d) its fs → ∀ x ∈ its, ∃ q ∈ fs, ∃ d, vw d = enPat q ∧ x = it3 q d := by
        intro its fs h
        induction h with
        | nil => intro x hx; cases hx
        | cons a _ ih =>
          intro x hx
          rcases List.mem_cons.mp hx with rfl | hx
          · exact ⟨_, List.mem_cons_self .., a⟩
          · obtain ⟨q, hq, r⟩ := ih x hx
            exact ⟨q, List.mem_cons_of_mem _ hq, r⟩
      conv => whnf
      have hal : PySem.W.AlikeAll (er it :: its.map er) ∧ PyData.depthAll (er it :: its.map er) ≤ 64 := by
        have : er it :: its.map er = ((p :: fs).map key3).map PySem.W.Datum.toD := by rw [e1, e2]; rfl
        rw [this]
        exact ⟨PySem.W.alikeAll_datum _, Nat.le_trans (PySem.W.depthAll_map _) (by decide)⟩
      refine ⟨hal.1, hal.2, fun x hx ex => ?_⟩
      rw [e1, e2, PySem.W.minD_map] at ex
      obtain ⟨m1, m2⟩ := minOf_spec (fs.map key3) (key3 p)
      obtain ⟨q, hq, d, hdq, rfl⟩ := emem (.cons h1 h2) x hx
      rw [er_it3 hdq] at ex
      have ek : key3 q = PySem.W.minOf (key3 p) (fs.map key3) := by
        have := PySem.W.Datum.eqv (key3 q) (PySem.W.minOf (key3 p) (fs.map key3))
        rw [← ex, PySem.W.Datum.eqv] at this
        simpa using this
      have hq' := (hfs q).mp hq
      have hfall : falls z ps = some q := falls_eq ⟨hq'.1, hq'.2, fun r hr er => key3_lt (by
        rw [ek]
        refine m2 _ ?_
        rw [← List.map_cons (f := key3)]
        exact List.mem_map_of_mem ((hfs r).mpr ⟨hr, er⟩))⟩
      rw [hfall] at k
      conv => whnf
      rw [hdq]
      exact k
def C_lsieve : Con := fun os post => ∃ (n : Nat) (d : List Pl.D), os = [.fl d] ∧ Deck (n + 3) d ∧ ∀ sp le d', 2 ≤ sp → sp ≤ 9 → 1 ≤ le → le ≤ 9 → Deck n d' → post (.sh (sieveD sp le)) [.fl d']
theorem h_lsieve : ∀ os post, C_lsieve os post → os.length = 1 ∧ r__law_sieve C_pick (dEnds [0] os post) (start0 N__law_sieve.length os) := by
  rintro os post ⟨n, d, rfl, hd, k⟩
  refine ⟨rfl, ?_⟩
  conv => whnf
  refine ⟨n + 2, d, 8, rfl, hd.le (by omega), by omega, by omega, fun r d1 r0 r1 hd1 => ?_⟩
  conv => whnf
  refine ⟨n + 1, d1, 3, rfl, hd1, by omega, by omega, fun q d2 q0 q1 hd2 => ?_⟩
  conv => whnf
  have h3 : q = 0 ∨ q = 1 ∨ q = 2 := by omega
  rcases h3 with rfl | rfl | rfl
  all_goals
    conv => whnf
    refine ⟨n, d2, _, rfl, hd2, by decide, by decide, fun t d3 t0 t1 hd3 => ?_⟩
    exact k _ _ d3 (by omega) (by omega) (by omega) (by omega) hd3
end Tx
/-! the law's own: joined -/
namespace Pl
open PySem PySem.Spec L2
theorem fm_if {α β : Type} (c : α → Bool) (g : α → β) : ∀ xs : List α, xs.filterMap (fun x => if c x = true then some (g x) else none) = (xs.filter c).map g
  | [] => rfl
  | x :: xs => by
    rw [List.filterMap_cons, List.filter_cons, fm_if c g xs]
    cases c x <;> rfl
theorem filter_all {α : Type} (c : α → Bool) : ∀ xs : List α, (xs.filter fun x => !c x).isEmpty = xs.all c
  | [] => rfl
  | x :: xs => by
    rw [List.filter_cons, List.all_cons, ← filter_all c xs]
    cases c x <;> rfl
/-- one that is not put in the list -/
theorem opt_no {R : Ev → List D → Prop} {ρ : Ev} {acc : List D} {y : D} (h : R ρ (acc ++ (if (false : Bool) = true then some y else none).toList)) : R ρ acc := by
  have e : (if (false : Bool) = true then some y else none).toList = ([] : List D) := rfl
  rw [e, List.append_nil] at h
  exact h
end Pl
namespace Tx
open PySem PySem.Spec L2 Pl
open PySem.W (EachIs)
theorem h_ljoined : ∀ os post, C_joined os post → os.length = 1 ∧ r__law_joined C_kind (dEnds [] os post) (start0 N__law_joined.length os) := by
  rintro os post ⟨ds, p, r, rfl, hd, hp, hq, hl, k⟩
  refine ⟨rfl, ?_⟩
  obtain ⟨d, dr, rfl, hdp, hdr⟩ := pats_cons hd
  have hlen : (d :: dr).length ≤ sizeLine := by rw [len_of_map hd, List.length_cons]; exact Nat.le_of_lt (small (by omega))
  have hat : atI (d :: dr) 0 = some d := at_head _ _
  generalize hds : d :: dr = ds at hd hlen hat k
  have okp : p.length ≤ 1000 := (hp p (List.mem_cons_self ..)).1
  have hpl : ∀ q ∈ p :: r, q.length = p.length := fun q h => by
    rcases List.mem_cons.mp h with rfl | h
    · rfl
    · exact hq q h
  conv => whnf
  rw [hat]
  conv => whnf
  rw [hdp]
  conv => whnf
  refine ⟨by omega, ?_⟩
  conv => whnf
  refine ⟨by rw [List.length_map]; omega, ?_⟩
  have er : rng 0 (((p.map enP).length : Nat) : Int).toNat = (List.range p.length).map fun i : Nat => .int (i : Int) := by rw [List.length_map, rng_map]; rfl
  have ejp : ∀ n, n ≤ p.length → ((joinP (p :: r)).take n).map enP = (List.range n).map fun i => enP (joinPt (p.getD i hole) (r.map fun q => q.getD i hole)) := by
    intro n hn
    unfold joinP
    rw [← List.map_take, List.take_range, Nat.min_eq_left hn, List.map_map]; rfl
  refine loop_ind (fun dr ρ => ∃ n a2 a3 a4 a5 a6 a7, n ≤ p.length ∧ dr = (List.range' n (p.length - n)).map (fun i : Nat => Pl.D.int (i : Int)) ∧ ρ = [some (.sh (.list ds)), some (.fl (((joinP (p :: r)).take n).map enP)), a2, a3, a4, a5, a6, a7]) ?_ ?_ _ _ ⟨0, none, none, none, none, none, none, Nat.zero_le _, by rw [er, List.range_eq_range']; rfl, rfl⟩
  · rintro ρ ⟨n, a2, a3, a4, a5, a6, a7, e1, e2, rfl⟩
    have e : p.length - n = 0 := by
      have := congrArg List.length e2
      rw [List.length_map, List.length_range'] at this
      exact this.symm
    have e : n = p.length := by omega
    subst e
    rw [List.take_of_length_le (by rw [joinP_len]; exact Nat.le_refl _)]
    exact k
  · rintro x dr' ρ R ⟨n, a2, a3, a4, a5, a6, a7, e1, e2, rfl⟩ hR
    have hn : n < p.length := by
      have := congrArg List.length e2
      rw [List.length_map, List.length_range', List.length_cons] at this
      omega
    have e3 : p.length - n = (p.length - (n + 1)) + 1 := by omega
    rw [e3, List.range'_succ, List.map_cons, List.cons.injEq] at e2
    obtain ⟨rfl, rfl⟩ := e2
    have eal : ((joinP (p :: r)).take n).map enP ++ [enP (joinPt (p.getD n hole) (r.map fun q => q.getD n hole))] = ((joinP (p :: r)).take (n + 1)).map enP := by
      rw [ejp n (by omega), ejp (n + 1) hn, List.range_succ, List.map_append]; rfl
    have fin : ∀ a3 a4 a5 a6 a7, R [some (.sh (.list ds)), some (.fl (((joinP (p :: r)).take n).map enP ++ [enP (joinPt (p.getD n hole) (r.map fun q => q.getD n hole))])), some (.sh (.int (n : Int))), a3, a4, a5, a6, a7] := fun a3 a4 a5 a6 a7 => hR _ ⟨n + 1, _, _, _, _, _, _, hn, rfl, by rw [eal]⟩
    have hfl : (((joinP (p :: r)).take n).map enP).length < sizeLine := by rw [List.length_map, List.length_take]; exact small (by omega)
    have hok : ∀ x ∈ (p :: r).map (fun q : Pat => q.getD n hole), OkPt x := by
      intro z hz
      obtain ⟨q, hq', rfl⟩ := List.mem_map.mp hz
      exact (hp q hq').2 _ (getD_mem (by rw [hpl q hq']; exact hn))
    generalize hjp : joinPt (p.getD n hole) (r.map fun q => q.getD n hole) = jp at fin
    -- parts
    conv => whnf
    refine ⟨hlen, ?_⟩
    refine lc_mt vw enPat (fun q => some (enP (q.getD n hole))) (fun q => q.length = p.length) [some (.sh (.list ds)), some (.fl (((joinP (p :: r)).take n).map enP)), some (.sh (.int (n : Int))), a3, a4, a5, a6, a7] ?_ _ (p :: r) _ hd hpl ?_
    · rintro y q hy hql R2 acc2 hR2
      conv => whnf
      rw [hy]
      conv => whnf
      rw [pat_at (by omega)]
      exact hR2
    rw [fm_some, List.nil_append]
    have ecol : (p :: r).map (fun q => enP (q.getD n hole)) = ((p :: r).map fun q : Pat => q.getD n hole).map enP := by rw [List.map_map]; rfl
    rw [ecol]
    rw [List.map_cons (f := fun q : Pat => q.getD n hole)] at hok ⊢
    generalize p.getD n hole = x0 at hjp hok
    have hrl : (r.map fun q : Pat => q.getD n hole).length ≤ 10000 := by rw [List.length_map]; exact hl
    generalize (r.map fun q : Pat => q.getD n hole) = xr at hjp hok hrl
    have hat1 := at_hmap enP x0 xr
    have hln1 : ((x0 :: xr).map enP).length ≤ sizeLine := by rw [List.length_map, List.length_cons]; exact Nat.le_of_lt (small (by omega))
    generalize hps : (x0 :: xr).map enP = pds at hat1 hln1
    -- kinds
    conv => whnf
    refine ⟨hln1, ?_⟩
    refine lc_mt id enP (fun x => some (.str (jKind x))) OkPt [some (.sh (.list ds)), some (.fl (((joinP (p :: r)).take n).map enP)), some (.sh (.int (n : Int))), some (.sh (.nl pds)), a4, a5, a6, a7] ?_ _ (x0 :: xr) _ (by rw [List.map_id]; exact hps.symm) hok ?_
    · rintro y q hy hql R2 acc2 hR2
      have hy : y = enP q := hy
      subst hy
      cases q with
      | w s =>
        conv => whnf
        refine ⟨dR (d_str _), ?_⟩
        conv => whnf
        refine ⟨s, rfl, Nat.le_trans hql.2.1 (Nat.le_of_lt (small (by omega))), ?_⟩
        exact hR2
      | h j =>
        conv => whnf
        refine ⟨dR (d_str _), ?_⟩
        cases j
        all_goals exact hR2
    rw [fm_some, List.nil_append]
    have hat2 : atI ((x0 :: xr).map fun x => Pl.D.str (jKind x)) 0 = some (.str (jKind x0)) := at_hmap (fun x => Pl.D.str (jKind x)) x0 xr
    have hln2 : ((x0 :: xr).map fun x => Pl.D.str (jKind x)).length ≤ sizeLine := by rw [List.length_map, List.length_cons]; exact Nat.le_of_lt (small (by omega))
    generalize hks : ((x0 :: xr).map fun x => Pl.D.str (jKind x)) = kds at hat2 hln2
    -- all alike
    conv => whnf
    refine ⟨hln1, ?_⟩
    refine lc_mt id enP (fun x => if (!decide (x = x0)) = true then some (enP x) else none) (fun _ => True) [some (.sh (.list ds)), some (.fl (((joinP (p :: r)).take n).map enP)), some (.sh (.int (n : Int))), some (.sh (.nl pds)), some (.fl kds), a5, a6, a7] ?_ _ (x0 :: xr) _ (by rw [List.map_id]; exact hps.symm) (fun _ _ => trivial) ?_
    · rintro y q hy _ R2 acc2 hR2
      have hy : y = enP q := hy
      subst hy
      conv => whnf
      rw [hat1]
      conv => whnf
      refine ⟨by rw [er_vw]; exact dL (d_P q), ?_⟩
      have e : (Pl.er (vw (enP q))).eqv (Pl.er (vw (enP x0))) = decide (q = x0) := by rw [er_vw, er_vw, eqv_P]
      conv => whnf
      rw [e]
      cases hc : decide (q = x0) with
      | true => rw [hc] at hR2; exact opt_no hR2
      | false => rw [hc] at hR2; exact hR2
    rw [fm_if, List.nil_append]
    conv => whnf
    refine ⟨dR d_nil, ?_⟩
    have e1 : (Pl.er (vw (.nl (((x0 :: xr).filter fun x => !decide (x = x0)).map enP)))).eqv (Pl.er (vw (.nl []))) = (x0 :: xr).all fun x => decide (x = x0) := by
      rw [er_vw, er_vw, eqv_nil, List.isEmpty_map, filter_all]
    conv => whnf
    rw [e1]
    unfold joinPt at hjp
    cases ha : (x0 :: xr).all fun x => decide (x = x0) with
    | true =>
      rw [ha, if_pos rfl] at hjp
      subst hjp
      conv => whnf
      rw [hat1]
      conv => whnf
      exact ⟨hfl, fin _ _ _ _ _⟩
    | false =>
      rw [ha, if_neg (by decide)] at hjp
      conv => whnf
      refine ⟨hln2, ?_⟩
      refine lc_mt id (fun x => Pl.D.str (jKind x)) (fun x => if (!decide (jKind x = jKind x0)) = true then some (.str (jKind x)) else none) (fun _ => True) [some (.sh (.list ds)), some (.fl (((joinP (p :: r)).take n).map enP)), some (.sh (.int (n : Int))), some (.sh (.nl pds)), some (.sh (.nl kds)), a5, a6, a7] ?_ kds (x0 :: xr) _ (by rw [List.map_id]; exact hks.symm) (fun _ _ => trivial) ?_
      · rintro y q hy _ R2 acc2 hR2
        have hy : y = .str (jKind q) := hy
        subst hy
        conv => whnf
        rw [hat2]
        conv => whnf
        refine ⟨dL (d_str _), ?_⟩
        have e : (Pl.er (vw (.str (jKind q)))).eqv (Pl.er (vw (.str (jKind x0)))) = decide (jKind q = jKind x0) := by rw [er_vw, er_vw, eqv_str]
        conv => whnf
        rw [e]
        cases hc : decide (jKind q = jKind x0) with
        | true => rw [hc] at hR2; exact opt_no hR2
        | false => rw [hc] at hR2; exact hR2
      rw [fm_if (g := fun x => Pl.D.str (jKind x)), List.nil_append]
      conv => whnf
      refine ⟨dR d_nil, ?_⟩
      have e2 : (Pl.er (vw (.nl (((x0 :: xr).filter fun x => !decide (jKind x = jKind x0)).map fun x => Pl.D.str (jKind x))))).eqv (Pl.er (vw (.nl []))) = (x0 :: xr).all fun x => decide (jKind x = jKind x0) := by
        rw [er_vw, er_vw, eqv_nil, List.isEmpty_map, filter_all (fun x => decide (jKind x = jKind x0))]
      conv => whnf
      rw [e2]
      cases hb : (x0 :: xr).all fun x => decide (jKind x = jKind x0) with
      | false =>
        rw [hb, if_neg (by decide)] at hjp
        subst hjp
        conv => whnf
        exact ⟨hfl, fin _ _ _ _ _⟩
      | true =>
        rw [hb, if_pos rfl] at hjp
        conv => whnf
        rw [hat2]
        conv => whnf
        refine ⟨Nat.le_trans (Nat.min_le_right _ _) (by rw [er_vw]; exact d_str _), ?_⟩
        conv => whnf
        have e : inD false (Pl.er (vw (.str (jKind x0)))) (([.str "number", .str "name"] : List Pl.D).map Pl.er) = (decide (("number" : Str) = jKind x0) || (decide (("name" : Str) = jKind x0))) := by
          show (((Pl.er (.str "number")).eqv (Pl.er (vw (.str (jKind x0)))) || ((Pl.er (.str "name")).eqv (Pl.er (vw (.str (jKind x0)))) || false))) = _
          rw [er_vw, eqv_str, eqv_str, Bool.or_false]
        rw [e]
        by_cases h1 : jKind x0 = "number"
        · rw [if_pos h1] at hjp
          subst hjp
          rw [h1] at hat2 ⊢
          conv => whnf
          rw [hat2]
          conv => whnf
          exact ⟨hfl, fin _ _ _ _ _⟩
        · rw [if_neg h1] at hjp
          by_cases h2 : jKind x0 = "name"
          · rw [if_pos h2] at hjp
            subst hjp
            rw [h2] at hat2 ⊢
            conv => whnf
            rw [hat2]
            conv => whnf
            exact ⟨hfl, fin _ _ _ _ _⟩
          · rw [if_neg h2] at hjp
            subst hjp
            rw [decide_eq_false (fun h => h1 h.symm), decide_eq_false (fun h => h2 h.symm)]
            conv => whnf
            exact ⟨hfl, fin _ _ _ _ _⟩
end Tx
/-! the law's own: groups -/
namespace Tx
open PySem PySem.Spec L2 Pl
open PySem.W (EachIs)
/-- the counts at a place -/
theorem lcount {ds : List Pl.D} {rows : List Row} {i : Nat} {a1 a2 a6 a7 a8 : Option O} {C : Con} (hd : rowsD ds rows) (hi : ∀ r ∈ rows, i < r.length) (hl : rows.length ≤ 100000) (D : PEnds)
    (h : ∀ a5, D.nx [some (.sh (.list ds)), a1, a2, some (.sh (.int (i : Int))), some (.fd (cntK (colW rows i)) (cntV (colW rows i))), a5, a6, a7, a8]) : ∀ a5, r__law_groups_2a_2 C D [some (.sh (.list ds)), a1, a2, some (.sh (.int (i : Int))), some (.fd [] []), a5, a6, a7, a8] := by
  intro a5
  refine zFor_of (ds := ds) (ρ1 := [some (.sh (.list ds)), a1, a2, some (.sh (.int (i : Int))), some (.fd [] []), a5, a6, a7, a8]) (fun K hK => hK) ?_
  refine loop_ind (fun dr ρ => ∃ done rest a5, rows = done ++ rest ∧ rowsD dr rest ∧ ρ = [some (.sh (.list ds)), a1, a2, some (.sh (.int (i : Int))), some (.fd (cntK (colW done i)) (cntV (colW done i))), a5, a6, a7, a8]) ?_ ?_ _ _ ⟨[], rows, a5, rfl, hd, rfl⟩
  · rintro ρ ⟨done, rest, a5, e1, e2, rfl⟩
    have e : rest = [] := List.map_eq_nil_iff.mp e2.symm
    subst e
    rw [List.append_nil] at e1
    subst e1
    exact h _
  · rintro d dr ρ R ⟨done, rest, a5, e1, e2, rfl⟩ hR
    cases rest with
    | nil => cases e2
    | cons r rest =>
      have e2 : vw d :: dr.map vw = rowD r :: rest.map rowD := e2
      rw [List.cons.injEq] at e2
      obtain ⟨hdr, e2⟩ := e2
      have hr : i < r.length := hi r (by rw [e1]; simp)
      have hlen : (cntK (colW done i)).length < sizeLine := by
        unfold cntK
        have := nubF_len (colW done i)
        have h2 : (colW done i).length = done.length := List.length_map ..
        have h3 := congrArg List.length e1
        rw [List.length_append] at h3
        rw [List.length_map]; exact small (by omega)
      conv => whnf
      rw [hdr]
      conv => whnf
      rw [row_at hr]
      conv => whnf
      rw [cnt_get]
      conv => whnf
      rw [hdr]
      conv => whnf
      rw [row_at hr]
      conv => whnf
      refine ⟨hlen, ?_⟩
      obtain ⟨p1, p2⟩ := cnt_put (colW done i) (wAt r i)
      rw [p1, p2, ← colW_snoc]
      exact hR _ ⟨done ++ [r], rest, _, by rw [e1, List.append_assoc]; rfl, e2, rfl⟩
def prB (rows : List Row) (j : Nat) : Int × Int := ((nw rows j : Nat), (j : Nat))
theorem er_pr (a b : Int) : er (.tuple [.int a, .int b]) = PySem.W.Datum.toD ((a, b) : Int × Int) := rfl
/-- the best place, by min -/
theorem lplace {ds : List Pl.D} {rows : List Row} {k : Nat} {sp le : Int} {a7 : Option O} {C : Con} (hd : rowsD ds rows) (h0 : rows ≠ []) (hk : ∀ r ∈ rows, r.length = k) (hk2 : k ≤ 1000) (hl : rows.length ≤ 100000) (D : PEnds)
    (h : ∀ a3 a4 a5 a6 a8, D.nx [some (.sh (.list ds)), some (.sh (sieveD sp le)), some (.sh (enB rows (bestPl sp le rows k))), a3, a4, a5, a6, a7, a8]) :
    r__law_groups_2 C D [some (.sh (.list ds)), some (.sh (sieveD sp le)), some (.sh .none), none, none, none, none, a7, none] := by
  have hcol : ∀ i, colW rows i ≠ [] := fun i e => h0 (List.map_eq_nil_iff.mp e)
  have hcl : ∀ i, (colW rows i).length = rows.length := fun i => List.length_map ..
  obtain ⟨r0, hr0, d0, hat, hd0⟩ : ∃ r0, r0 ∈ rows ∧ ∃ d0, atI ds 0 = some d0 ∧ vw d0 = rowD r0 := by
    cases rows with
    | nil => exact absurd rfl h0
    | cons r t =>
      cases ds with
      | nil => cases hd
      | cons d e =>
        have hd : vw d :: e.map vw = rowD r :: t.map rowD := hd
        rw [List.cons.injEq] at hd
        exact ⟨r, List.mem_cons_self .., d, at_head _ _, hd.1⟩
  have hrl : (r0.map Pl.D.str).length = k := by rw [List.length_map]; exact hk r0 hr0
  conv => whnf
  rw [hat]
  conv => whnf
  rw [hd0]
  conv => whnf
  refine ⟨by omega, ?_⟩
  conv => whnf
  refine ⟨by omega, ?_⟩
  have er0 : rng 0 (((r0.map Pl.D.str).length : Nat) : Int).toNat = (List.range k).map fun i : Nat => .int (i : Int) := by rw [hrl, rng_map]; rfl
  refine loop_ind (fun dr ρ => ∃ n a3 a4 a5 a6 a8, n ≤ k ∧ dr = (List.range' n (k - n)).map (fun i : Nat => Pl.D.int (i : Int)) ∧ ρ = [some (.sh (.list ds)), some (.sh (sieveD sp le)), some (.sh (enB rows (bestPl sp le rows n))), a3, a4, a5, a6, a7, a8]) ?_ ?_ _ _ ⟨0, none, none, none, none, none, Nat.zero_le _, by rw [er0, List.range_eq_range']; rfl, rfl⟩
  · rintro ρ ⟨n, a3, a4, a5, a6, a8, e1, e2, rfl⟩
    have e : k - n = 0 := by
      have := congrArg List.length e2
      rw [List.length_map, List.length_range'] at this
      exact this.symm
    have e : n = k := by omega
    subst e
    exact h _ _ _ _ _
  · rintro d dr ρ R ⟨n, a3, a4, a5, a6, a8, e1, e2, rfl⟩ hR
    have hn : n < k := by
      have := congrArg List.length e2
      rw [List.length_map, List.length_range', List.length_cons] at this
      omega
    have e3 : k - n = (k - (n + 1)) + 1 := by omega
    rw [e3, List.range'_succ, List.map_cons, List.cons.injEq] at e2
    obtain ⟨rfl, rfl⟩ := e2
    have fin : ∀ a3 a4 a5 a6 a8, R [some (.sh (.list ds)), some (.sh (sieveD sp le)), some (.sh (enB rows (bestPl sp le rows (n + 1)))), a3, a4, a5, a6, a7, a8] := fun a3 a4 a5 a6 a8 => hR _ ⟨n + 1, _, _, _, _, _, hn, rfl, rfl⟩
    have hsz : (nubF (colW rows n)).length ≤ 100000 := by have := nubF_len (colW rows n); rw [hcl] at this; omega
    refine lcount (rows := rows) (i := n) (a1 := some (.sh (sieveD sp le))) (a2 := some (.sh (enB rows (bestPl sp le rows n)))) (a6 := a6) (a7 := a7) (a8 := a8) (C := C) hd (fun r hr => by rw [hk r hr]; exact hn) hl _ (fun b5 => ?_) a5
    conv => whnf
    refine ⟨?_, ?_⟩
    · show ((cntK (colW rows n)).map unkey).length ≤ _
      rw [List.length_map, cntK_len]; exact Nat.le_of_lt (small (by unfold nw; omega))
    rw [show List.map unkey (cntK (colW rows n)) = (nubF (colW rows n)).map Pl.D.str from unkeys _]
    refine lc_mt id Pl.D.str (fun w => some (cntF (colW rows n) w)) (fun w => w ∈ nubF (colW rows n)) [some (.sh (.list ds)), some (.sh (sieveD sp le)), some (.sh (enB rows (bestPl sp le rows n))), some (.sh (.int (n : Int))), some (.fr (cntK (colW rows n)) (cntV (colW rows n))), b5, a6, a7, a8] ?_ _ (nubF (colW rows n)) _ (by rw [List.map_id]) (fun _ h => h) ?_
    · rintro d w hd' hw R2 acc hR2
      have hd' : d = .str w := hd'
      subst hd'
      conv => whnf
      rw [cnt_ix _ hw]
      exact hR2
    rw [fm_some, List.nil_append]
    have ec : (nubF (colW rows n)).map (cntF (colW rows n)) = ((nubF (colW rows n)).map fun w => (((colW rows n).count w : Nat) : Int)).map .int := by rw [List.map_map]; rfl
    rw [ec]
    have hne : ((nubF (colW rows n)).map fun w => (((colW rows n).count w : Nat) : Int)) ≠ [] := by
      intro z
      have z := List.map_eq_nil_iff.mp z
      obtain ⟨w, hw⟩ := List.exists_mem_of_ne_nil _ (hcol n)
      have := mem_nubF.mpr hw
      rw [z] at this; cases this
    have hfit : ∀ m, m ∈ ((nubF (colW rows n)).map fun w => (((colW rows n).count w : Nat) : Int)) → (∀ j ∈ ((nubF (colW rows n)).map fun w => (((colW rows n).count w : Nat) : Int)), m ≤ j) → fitPl sp le rows n = (decide (2 ≤ nw rows n) && decide ((nw rows n : Int) ≤ sp) && decide (le ≤ m)) := fun m => fit_is
    generalize ((nubF (colW rows n)).map fun w => (((colW rows n).count w : Nat) : Int)) = xs at hne hfit
    cases xs with
    | nil => exact absurd rfl hne
    | cons x xs =>
      conv => whnf
      refine min_ints (n := x) (ns := xs) fun m hm hmx => ?_
      have hf := hfit m hm hmx
      have hbs := bestPl_succ sp le rows n
      unfold stepPl isBet at hbs
      rw [hf] at hbs
      have hkl := cntK_len rows n
      generalize cntK (colW rows n) = ks at hkl
      conv => whnf
      rw [hkl]
      by_cases c1 : 2 ≤ nw rows n
      · rw [decide_eq_true (show (1 : Int) < (nw rows n : Nat) by omega)]
        rw [decide_eq_true c1] at hbs
        conv => whnf
        cases c2 : decide ((nw rows n : Int) ≤ sp) with
        | false =>
          rw [c2] at hbs
          have hbs : bestPl sp le rows (n + 1) = bestPl sp le rows n := hbs
          rw [hbs] at fin
          exact fin _ _ _ _ _
        | true =>
          rw [c2] at hbs
          conv => whnf
          cases c3 : decide (le ≤ m) with
          | false =>
            rw [c3] at hbs
            have hbs : bestPl sp le rows (n + 1) = bestPl sp le rows n := hbs
            rw [hbs] at fin
            exact fin _ _ _ _ _
          | true =>
            rw [c3] at hbs
            cases hb : bestPl sp le rows n with
            | none =>
              rw [hb] at hbs
              have hbs : bestPl sp le rows (n + 1) = some n := hbs
              rw [hbs] at fin
              have fin : ∀ a3 a4 a5 a6 a8, R [some (.sh (.list ds)), some (.sh (sieveD sp le)), some (.sh (.tuple [.int (nw rows n : Nat), .int (n : Int)])), a3, a4, a5, a6, a7, a8] := fin
              rw [← hkl] at fin
              exact fin _ _ _ _ _
            | some j =>
              rw [hb] at hbs
              have hjn := (bestPl_fit hb).1
              have hbs : bestPl sp le rows (n + 1) = if decide (nw rows n < nw rows j) = true then some n else some j := hbs
              have hmin : PySem.W.minD (er (.tuple [.int (nw rows j : Nat), .int (j : Int)])) [er (.tuple [.int (nw rows n : Nat), .int (n : Int)])] = er (enB rows (bestPl sp le rows (n + 1))) := by
                rw [er_pr, er_pr]
                have := PySem.W.minD_map (α := Int × Int) ((nw rows j : Nat), (j : Int)) [((nw rows n : Nat), (n : Int))]
                rw [List.map_cons, List.map_nil] at this
                rw [this, hbs]
                show PySem.W.Datum.toD (if PySem.W.DatumOrd.lt (((nw rows n : Nat), (n : Int)) : Int × Int) ((nw rows j : Nat), (j : Int)) = true then (((nw rows n : Nat), (n : Int)) : Int × Int) else ((nw rows j : Nat), (j : Int))) = _
                have el : PySem.W.DatumOrd.lt (((nw rows n : Nat), (n : Int)) : Int × Int) ((nw rows j : Nat), (j : Int)) = decide (nw rows n < nw rows j) := by
                  show (if ((nw rows n : Nat) : Int) = ((nw rows j : Nat) : Int) then decide ((n : Int) < (j : Int)) else decide (((nw rows n : Nat) : Int) < ((nw rows j : Nat) : Int))) = _
                  split
                  · rename_i e
                    rw [decide_eq_false (by omega), decide_eq_false (by omega)]
                  · exact decide_eq_decide.mpr (by omega)
                rw [el]
                cases decide (nw rows n < nw rows j) <;> rfl
              have inj : ∀ a b c e : Int, er (.tuple [.int a, .int b]) = er (.tuple [.int c, .int e]) → Pl.D.tuple [.int a, .int b] = .tuple [.int c, .int e] := by
                intro a b c e he
                have he : PyData.tuple [.int a, .int b] = .tuple [.int c, .int e] := he
                simp at he
                rw [he.1, he.2]
              have hal : PySem.W.AlikeAll [er (.tuple [.int (nw rows j : Nat), .int (j : Int)]), er (.tuple [.int (nw rows n : Nat), .int (n : Int)])] := by
                have := PySem.W.alikeAll_datum (α := Int × Int) [((nw rows j : Nat), (j : Int)), ((nw rows n : Nat), (n : Int))]
                exact this
              have hdp : PyData.depthAll [er (.tuple [.int (nw rows j : Nat), .int (j : Int)]), er (.tuple [.int (nw rows n : Nat), .int (n : Int)])] ≤ 64 := Nat.le_trans (PySem.W.depthAll_map (α := Int × Int) [((nw rows j : Nat), (j : Int)), ((nw rows n : Nat), (n : Int))]) (by decide)
              have hbq : ∃ t : Nat, bestPl sp le rows (n + 1) = some t := by
                rw [hbs]
                cases decide (nw rows n < nw rows j)
                · exact ⟨j, rfl⟩
                · exact ⟨n, rfl⟩
              obtain ⟨t, ht⟩ := hbq
              rw [ht] at fin hmin
              have fin2 : ∀ a b : Int, er (.tuple [.int a, .int b]) = er (enB rows (some t)) → ∀ a3 a4 a5 a6 a8, R [some (.sh (.list ds)), some (.sh (sieveD sp le)), some (.sh (.tuple [.int a, .int b])), a3, a4, a5, a6, a7, a8] := by
                intro a b he a3 a4 a5 a6 a8
                have := inj a b _ _ he
                rw [this]
                exact fin _ _ _ _ _
              rw [← hkl] at hmin hal hdp
              conv => whnf
              refine ⟨⟨hal, hdp⟩, fun e => ?_, fun e => ?_⟩
              · exact fin2 _ _ (e.symm.trans hmin) _ _ _ _ _
              · exact fin2 _ _ (e.symm.trans hmin) _ _ _ _ _
      · rw [decide_eq_false (show ¬ (1 : Int) < (nw rows n : Nat) by omega)]
        rw [decide_eq_false c1] at hbs
        have hbs : bestPl sp le rows (n + 1) = bestPl sp le rows n := hbs
        rw [hbs] at fin
        exact fin _ _ _ _ _

theorem h_lgroups (f : Nat) : ∀ os post, C_groups (f + 1) os post → os.length = 2 ∧ r__law_groups (C_groups f) (dEnds [] os post) (start0 N__law_groups.length os) := by
  rintro os post ⟨ds, rows, k, sp, le, rfl, hd, h0, hk, hk2, hl, hf, hsp, kk⟩
  refine ⟨rfl, ?_⟩
  have hdl : ds.length = rows.length := len_of_map hd
  have hpos : 0 < rows.length := List.length_pos_iff.mpr h0
  refine zSeq_in ?_
  show zSeq (r__law_groups_2 (C_groups f)) _ _ [some (.sh (.list ds)), some (.sh (sieveD sp le)), some (.sh .none), none, none, none, none, none, none]
  refine zSeq_in ?_
  refine lplace (rows := rows) (k := k) (sp := sp) (le := le) hd h0 hk hk2 (by omega) _ fun a3 a4 a5 a6 a8 => ?_
  have hlr := lenR_of h0 hk
  cases hb : bestPl sp le rows k with
  | none =>
    conv => whnf
    refine kk [.list ds] [rows] (.cons ⟨ds, rfl, hd⟩ .nil) ?_ (fun g hg => by rw [List.mem_singleton.mp hg]; exact ⟨h0, Nat.le_refl _, fun _ h => h⟩) hpos
    unfold grpP
    rw [hlr, hb]
    exact List.Perm.refl _
  | some i =>
    have hg : grpP sp le (f + 1) rows = (nubF (colW rows i)).flatMap fun w => grpP sp le f (pickR rows i w) := by
      show (match bestPl sp le rows (lenR rows) with
        | none => [joinR rows]
        | some i => (nubF (colW rows i)).flatMap fun w => grpP sp le f (pickR rows i w)) = _
      rw [hlr, hb]
    rw [hg] at kk
    obtain ⟨hik, hfit⟩ := bestPl_fit hb
    obtain ⟨t1, t2⟩ := fitPl_two hfit
    have hee : EachIs (fun d r => vw d = rowD r ∧ r.length = k) ds rows := each_and hd hk
    conv => whnf
    refine ⟨by rw [hdl]; exact Nat.le_of_lt (small (by omega)), ?_⟩
    refine lc_mt vw rowD (fun r => some (.str (wAt r i))) (fun r => r.length = k) [some (.sh (.list ds)), some (.sh (sieveD sp le)), some (.sh (enB rows (some i))), a3, a4, a5, a6, some (.fl []), a8] ?_ ds rows [] hd hk ?_
    · rintro d r hdr hrk R acc hR
      conv => whnf
      rw [hdr]
      conv => whnf
      rw [row_at (by omega)]
      exact hR
    rw [fm_some, List.nil_append]
    have ec : rows.map (fun r => Pl.D.str (wAt r i)) = (colW rows i).map .str := by unfold colW; rw [List.map_map]; rfl
    rw [ec]
    conv => whnf
    rw [strsOf_map]
    conv => whnf
    refine ⟨by unfold colW; rw [List.length_map]; omega, fun ys ynd ymem _ => ?_⟩
    have pys : ys.Perm (nubF (colW rows i)) := perm_of_mem ynd (nubF_nodup _) fun x => by rw [ymem, mem_nubF]
    conv => whnf
    refine loop_ind (fun dr ρ => ∃ dw rw es gs a5 a8, ys = dw ++ rw ∧ dr = rw.map Pl.D.str ∧ EachIs grpD es gs ∧ (gs.map joinR).Perm (dw.flatMap fun w => grpP sp le f (pickR rows i w)) ∧ (∀ g ∈ gs, g ≠ [] ∧ g.length ≤ rows.length ∧ ∀ r ∈ g, r ∈ rows) ∧ es.length ≤ (dw.map fun w => (pickR rows i w).length).sum ∧
      ρ = [some (.sh (.list ds)), some (.sh (sieveD sp le)), some (.sh (enB rows (some i))), a3, a4, a5, a6, some (.fl es), a8]) ?_ ?_ _ _ ⟨[], ys, [], [], a5, a8, rfl, rfl, .nil, List.Perm.refl _, by simp, Nat.le_refl _, rfl⟩
    · rintro ρ ⟨dw, rw, es, gs, a5, a8, e1, e2, e3, e4, e5, e6, rfl⟩
      have e : rw = [] := List.map_eq_nil_iff.mp e2.symm
      subst e
      rw [List.append_nil] at e1
      subst e1
      refine kk es gs e3 (e4.trans (flatMap_of_perm _ pys)) e5 ?_
      have := picks_len i ys ynd rows
      omega
    · rintro d dr ρ R ⟨dw, rw, es, gs, a5, a8, e1, e2, e3, e4, e5, e6, rfl⟩ hR
      cases rw with
      | nil => cases e2
      | cons w rw =>
        rw [List.map_cons, List.cons.injEq] at e2
        obtain ⟨rfl, rfl⟩ := e2
        have hw : w ∈ colW rows i := (ymem w).mp (by rw [e1]; simp)
        have hlt : (pickR rows i w).length < rows.length := pickR_len (other_word t1 w)
        have hsum : es.length ≤ rows.length := by
          have h1 := picks_len i ys ynd rows
          rw [e1, List.map_append, List.sum_append] at h1
          omega
        conv => whnf
        refine ⟨by rw [hdl]; exact Nat.le_of_lt (small (by omega)), ?_⟩
        refine lc_keep (fun d r => vw d = rowD r ∧ r.length = k) (fun r => decide (wAt r i = w)) [some (.sh (.list ds)), some (.sh (sieveD sp le)), some (.sh (enB rows (some i))), a3, a4, a5, a6, some (.fl es), some (.sh (.str w))] ?_ ds rows [] hee ?_
        · rintro d r ⟨hdr, hrk⟩ R2 acc hR2
          conv => whnf
          rw [hdr]
          conv => whnf
          rw [row_at (by omega)]
          conv => whnf
          refine ⟨dL (by rw [er_vw]; exact d_str _), ?_⟩
          conv => whnf
          rw [er_vw, er_vw, eqv_str]
          cases hc : decide (wAt r i = w) with
          | true => rw [hc] at hR2; exact hR2
          | false => rw [hc] at hR2; exact hR2
        · intro es2 hes2
          have hrd : rowsD es2 (pickR rows i w) := rowsD_each.mpr (hes2.mono fun _ _ h => h.1)
          conv => whnf
          refine ⟨es2, pickR rows i w, k, sp, le, rfl, hrd, pickR_ne hw, fun r hr => hk r (pickR_mem.mp hr).1, hk2, by omega, by omega, hsp, fun es3 gs3 q1 q2 q3 q4 => ?_⟩
          conv => whnf
          refine ⟨by have := sizeLine_eq; omega, ?_⟩
          refine hR _ ⟨dw ++ [w], rw, es ++ es3, gs ++ gs3, _, _, by rw [e1, List.append_assoc]; rfl, rfl, each_app e3 q1, ?_, ?_, ?_, rfl⟩
          · rw [List.map_append, List.flatMap_append]
            refine e4.append ?_
            rw [List.flatMap_singleton]; exact q2
          · intro g hg
            rcases List.mem_append.mp hg with hg | hg
            · exact e5 g hg
            · exact ⟨(q3 g hg).1, by have := (q3 g hg).2.1; omega, fun r hr => (pickR_mem.mp ((q3 g hg).2.2 r hr)).1⟩
          · rw [List.length_append, List.map_append, List.sum_append]
            simp only [List.map_cons, List.map_nil, List.sum_cons, List.sum_nil]
            omega
end Tx
/-! the law's own: gathered -/
namespace Tx
open PySem PySem.Spec L2 Pl
open PySem.W (EachIs)
def C_lgathered : Con := fun os post => ∃ (ls : List Str) (sp le : Int), os = [.sh (.list (ls.map .str)), .sh (sieveD sp le)] ∧ sp ≤ 60 ∧ ls.length ≤ 130 ∧ (∀ z ∈ ls, IsLn 12 z) ∧ post (.fl ((gat sp le ls).map nwPat)) os
theorem rng_one : rng 1 12 = (List.range' 1 12).map fun m : Nat => Pl.D.int (m : Int) := rfl
theorem h_lgathered : ∀ os post, C_lgathered os post → os.length = 2 ∧ r__law_gathered C_lordered (C_groups fuel) C_joined (dEnds [] os post) (start0 N__law_gathered.length os) := by
  rintro os post ⟨ls, sp, le, rfl, hsp, hl, hz, k⟩
  refine ⟨rfl, ?_⟩
  refine zSeq_in ?_
  show zSeq (r__law_gathered_2 C_lordered (C_groups fuel) C_joined) _ _ [some (.sh (.list (ls.map .str))), some (.sh (sieveD sp le)), some (.fl []), none, none, none, none, none, none]
  refine zSeq_in ?_
  refine zFor_of (ds := (List.range' 1 12).map fun m : Nat => Pl.D.int (m : Int)) (ρ1 := [some (.sh (.list (ls.map .str))), some (.sh (sieveD sp le)), some (.fl []), none, none, none, none, none, none]) (fun K hK => ?_) ?_
  · conv => whnf
    refine ⟨⟨by omega, by omega, by omega, by omega⟩, ?_⟩
    rw [show (rng 1 (13 - 1 : Int).toNat) = rng 1 12 from rfl, rng_one]
    exact hK
  have h12 : ∀ m ∈ List.range' 1 12, 1 ≤ m ∧ m ≤ 12 := fun m hm => by rw [List.mem_range'_1] at hm; omega
  have hlen : (List.range' 1 12).length = 12 := List.length_range'
  unfold gat at k
  generalize List.range' 1 12 = ms at k h12 hlen
  refine loop_ind (fun dr ρ => ∃ dm rm ps a3 a4 a5 a6 a7 a8, ms = dm ++ rm ∧ dr = rm.map (fun m : Nat => Pl.D.int (m : Int)) ∧ (ps : List Pat).Perm (dm.flatMap (gatM sp le ls)) ∧ (∀ p ∈ ps, OkPat p) ∧ ps.length ≤ 130 * dm.length ∧
    ρ = [some (.sh (.list (ls.map .str))), some (.sh (sieveD sp le)), some (.fl (ps.map nwPat)), a3, a4, a5, a6, a7, a8]) ?_ ?_ _ _ ⟨[], ms, [], none, none, none, none, none, none, rfl, rfl, List.Perm.refl _, by simp, Nat.zero_le _, rfl⟩
  · rintro ρ ⟨dm, rm, ps, a3, a4, a5, a6, a7, a8, e1, e2, e3, e4, e5, rfl⟩
    have e : rm = [] := List.map_eq_nil_iff.mp e2.symm
    subst e
    rw [List.append_nil] at e1
    subst e1
    conv => whnf
    refine ⟨ps.map nwPat, ps, rfl, pats_nw ps, e4, by omega, ?_⟩
    rw [inOrder_of_perm e3]
    exact k
  · rintro dd dr ρ R ⟨dm, rm, ps, a3, a4, a5, a6, a7, a8, e1, e2, e3, e4, e5, rfl⟩ hR
    cases rm with
    | nil => cases e2
    | cons m rm =>
      rw [List.map_cons, List.cons.injEq] at e2
      obtain ⟨rfl, rfl⟩ := e2
      have hm := h12 m (by rw [e1]; simp)
      have hdm : dm.length < 12 := by have := congrArg List.length e1; rw [List.length_append, List.length_cons] at this; omega
      -- the lines of m words
      conv => whnf
      refine ⟨by rw [List.length_map]; exact Nat.le_of_lt (small (by omega)), ?_⟩
      refine lc_mt id Pl.D.str (fun z => if decide (wc z = m) = true then some (.str z) else none) (fun z => z.length ≤ 100000) [some (.sh (.list (ls.map .str))), some (.sh (sieveD sp le)), some (.fl (ps.map nwPat)), some (.sh (.int (m : Int))), a4, a5, a6, a7, a8] ?_ _ ls _ (by rw [List.map_id]) (fun z h => by have := (hz z h).len; omega) ?_
      · rintro d z hd hzl R2 acc hR2
        have hd : d = .str z := hd
        subst hd
        conv => whnf
        refine ⟨by decide, ?_⟩
        conv => whnf
        refine ⟨by have := sizeLine_eq; omega, ?_⟩
        conv => whnf
        refine ⟨dR (d_int _), ?_⟩
        conv => whnf
        rw [er_vw, er_vw, eqv_int]
        have e : decide ((((Txt.split z " ").map Pl.D.str).length : Int) = ((m : Nat) : Int)) = decide (wc z = m) := by
          unfold wc
          rw [List.length_map]
          exact decide_eq_decide.mpr (by omega)
        rw [e]
        cases hc : decide (wc z = m) with
        | true => rw [hc] at hR2; exact hR2
        | false => rw [hc] at hR2; exact opt_no hR2
      rw [fm_if (c := fun z => decide (wc z = m)), List.nil_append]
      have hfl : (ls.filter fun z => decide (wc z = m)).length ≤ ls.length := List.length_filter_le ..
      have hfm : ∀ z, z ∈ ls.filter (fun z => decide (wc z = m)) ↔ z ∈ linesM ls m := fun z => by
        unfold linesM
        rw [List.mem_filter, List.mem_filter, mem_nubF]; rfl
      generalize (ls.filter fun z => decide (wc z = m)) = fs at hfl hfm
      conv => whnf
      rw [strsOf_map]
      conv => whnf
      refine ⟨by omega, fun ys ynd ymem _ => ?_⟩
      have hyp : ys.Perm (linesM ls m) := perm_of_mem ynd ((nubF_nodup ls).filter _) fun z => by rw [ymem, hfm]
      have hyl : ys.length ≤ 130 := by have := linesM_len ls m; rw [hyp.length_eq]; omega
      conv => whnf
      refine ⟨dR d_nil, ?_⟩
      have e0 : (er (.list (ys.map Pl.D.str))).eqv (er (vw (.nl []))) = ys.isEmpty := by rw [er_vw, show er (.list (ys.map Pl.D.str)) = er (.nl (ys.map .str)) from rfl, eqv_nil, List.isEmpty_map]
      conv => whnf
      rw [e0]
      cases hye : ys.isEmpty with
      | true =>
        have hy0 : ys = [] := List.isEmpty_iff.mp hye
        have hl0 : linesM ls m = [] := by rw [hy0] at hyp; exact hyp.nil_eq.symm
        refine hR _ ⟨dm ++ [m], rm, ps, _, _, _, _, _, _, by rw [e1, List.append_assoc]; rfl, rfl, ?_, e4, by rw [List.length_append, List.length_singleton]; omega, rfl⟩
        rw [List.flatMap_append, List.flatMap_singleton]
        have : gatM sp le ls m = [] := if_pos hl0
        rw [this, List.append_nil]
        exact e3
      | false =>
        have hy0 : ys ≠ [] := fun e => by rw [e] at hye; cases hye
        have hne : linesM ls m ≠ [] := fun e => by rw [e] at hyp; exact hy0 hyp.symm.nil_eq.symm
        have hyz : ∀ z ∈ ys, IsLn 12 z := fun z h => hz z (by
          have := hyp.mem_iff.mp h
          unfold linesM at this
          exact mem_nubF.mp (List.mem_filter.mp this).1)
        have hrp : (ys.map fun z => Txt.split z " ").Perm (rowsM ls m) := hyp.map _
        have hrok : ∀ r ∈ ys.map (fun z => Txt.split z " "), okRow r := fun r h => rowsM_ok hz r (hrp.mem_iff.mp h)
        have hrlen : ∀ r ∈ ys.map (fun z => Txt.split z " "), r.length = m := fun r h => rowsM_len r (hrp.mem_iff.mp h)
        have egat : gatM sp le ls m = grpP sp le fuel (rowsM ls m) := if_neg hne
        have hgp := grpP_perm (sp := sp) (le := le) fuel hrp hrlen
        conv => whnf
        refine ⟨by rw [List.length_map]; exact Nat.le_of_lt (small (by omega)), ?_⟩
        refine lc_mt id Pl.D.str (fun z => some (enL (Txt.split z " "))) (fun z => z.length ≤ 100000) [some (.sh (.list (ls.map .str))), some (.sh (sieveD sp le)), some (.fl (ps.map nwPat)), some (.sh (.int (m : Int))), some (.sh (.nl (ys.map .str))), a5, a6, a7, a8] ?_ _ ys _ (by rw [List.map_id]) (fun z h => by have := (hyz z h).len; omega) ?_
        · rintro d z hd hzl R2 acc hR2
          have hd : d = .str z := hd
          subst hd
          conv => whnf
          refine ⟨by decide, ?_⟩
          conv => whnf
          exact ⟨by have := sizeLine_eq; omega, hR2⟩
        rw [fm_some, List.nil_append]
        have hrd : rowsD (ys.map fun z => enL (Txt.split z " ")) (ys.map fun z => Txt.split z " ") := by
          unfold rowsD
          rw [List.map_map, List.map_map]; rfl
        have hr0 : (ys.map fun z => Txt.split z " ") ≠ [] := fun e => hy0 (List.map_eq_nil_iff.mp e)
        have hrl : (ys.map fun z => Txt.split z " ").length ≤ 130 := by rw [List.length_map]; exact hyl
        generalize (ys.map fun z => enL (Txt.split z " ")) = rds at hrd
        generalize (ys.map fun z => Txt.split z " ") = rows at hrd hrok hrlen hgp hr0 hrl
        conv => whnf
        refine ⟨rds, rows, m, sp, le, rfl, hrd, hr0, hrlen, by omega, hrl, by decide, hsp, fun es gs q1 q2 q3 q4 => ?_⟩
        conv => whnf
        refine loop_ind (fun dr2 ρ => ∃ dg rg ps2 a5 a6 a7 a8, gs = dg ++ rg ∧ EachIs grpD dr2 rg ∧ ps2 = ps ++ (dg : List (List Row)).map joinR ∧ (∀ p ∈ ps2, OkPat p) ∧
          ρ = [some (.sh (.list (ls.map .str))), some (.sh (sieveD sp le)), some (.fl (ps2.map nwPat)), some (.sh (.int (m : Int))), some (.sh (.nl (ys.map .str))), a5, a6, a7, a8]) ?_ ?_ _ _ ⟨[], gs, ps, a5, a6, a7, a8, rfl, q1, by simp, e4, rfl⟩
        · rintro ρ ⟨dg, rg, ps2, a5, a6, a7, a8, f1, f2, f3, f4, rfl⟩
          cases f2
          rw [List.append_nil] at f1
          subst f1
          refine hR _ ⟨dm ++ [m], rm, ps2, _, _, _, _, _, _, by rw [e1, List.append_assoc]; rfl, rfl, ?_, f4, ?_, rfl⟩
          · rw [f3, List.flatMap_append, List.flatMap_singleton, egat]
            exact e3.append (q2.trans hgp)
          · rw [f3, List.length_append, List.length_map, List.length_append, List.length_singleton, ← each_len q1]
            omega
        · rintro e dr2 ρ R2 ⟨dg, rg, ps2, a5, a6, a7, a8, f1, f2, f3, f4, rfl⟩ hR2
          cases f2 with
          | @cons _ g _ rg hg f2 =>
            have hgm : g ∈ gs := by rw [f1]; simp
            obtain ⟨g0, ggl, gsub⟩ := q3 g hgm
            have gok : ∀ r ∈ g, okRow r := fun r hr => hrok r (gsub r hr)
            have glen : ∀ r ∈ g, r.length = m := fun r hr => hrlen r (gsub r hr)
            have hps2 : ps2.length ≤ 130 * 130 + 130 := by
              have h1 := congrArg List.length f1
              rw [List.length_append, ← each_len q1] at h1
              rw [f3, List.length_append, List.length_map]; omega
            obtain ⟨gds, hv, hgd⟩ := hg
            have hgl : gds.length = g.length := len_of_map hgd
            conv => whnf
            rw [hv]
            conv => whnf
            refine ⟨by rw [hgl]; exact Nat.le_of_lt (small (by omega)), ?_⟩
            refine lc_mt vw rowD (fun r => some (nwPat (ofWs r))) okRow [some (.sh (.list (ls.map .str))), some (.sh (sieveD sp le)), some (.fl (ps2.map nwPat)), some (.sh (.int (m : Int))), some (.sh (.nl (ys.map .str))), some (.sh e), a6, a7, a8] ?_ gds g [] hgd gok ?_
            · rintro d2 r hdr hor R3 acc hR3
              conv => whnf
              rw [hdr]
              conv => whnf
              refine ⟨by rw [List.length_map]; exact Nat.le_of_lt (small (by have := hor.2.1; omega)), ?_⟩
              refine lc_mt id Pl.D.str (fun w => some (enP (.w w))) (fun _ => True) [some (.sh (.list (ls.map .str))), some (.sh (sieveD sp le)), some (.fl (ps2.map nwPat)), some (.sh (.int (m : Int))), some (.sh (.nl (ys.map .str))), some (.sh e), a6, some (.sh d2), a8] ?_ _ r _ (by rw [List.map_id]) (fun _ _ => trivial) ?_
              · rintro d3 w hd3 _ R4 acc4 hR4
                have hd3 : d3 = .str w := hd3
                subst hd3
                exact hR4
              rw [fm_some, List.nil_append]
              have e9 : r.map (fun w => enP (.w w)) = (ofWs r).map enP := by unfold ofWs; rw [List.map_map]; rfl
              rw [e9]
              exact hR3
            · rw [fm_some, List.nil_append]
              conv => whnf
              have hjo : OkPat (joinR g) := joinR_ok g0 gok
              cases g with
              | nil => exact absurd rfl g0
              | cons r t =>
                refine ⟨(r :: t).map (fun r => nwPat (ofWs r)), ofWs r, t.map ofWs, rfl, ?_, ?_, ?_, ?_, ?_⟩
                · unfold pats
                  rw [List.map_map, List.map_cons, List.map_cons, List.map_map]; rfl
                · intro q hq
                  rw [← List.map_cons (f := ofWs)] at hq
                  obtain ⟨r', hr', rfl⟩ := List.mem_map.mp hq
                  have := gok r' hr'
                  exact ofWs_ok (by have := this.2.1; omega) this.2.2
                · intro q hq
                  obtain ⟨r', hr', rfl⟩ := List.mem_map.mp hq
                  unfold ofWs
                  rw [List.length_map, List.length_map, glen r' (List.mem_cons_of_mem _ hr'), glen r (List.mem_cons_self ..)]
                · rw [List.length_map]; rw [List.length_cons] at ggl; omega
                · conv => whnf
                  refine ⟨by rw [List.length_map]; exact small (by omega), ?_⟩
                  refine hR2 _ ⟨dg ++ [r :: t], rg, ps2 ++ [joinR (r :: t)], some (.sh e), a6, a7, a8, by rw [f1, List.append_assoc]; rfl, f2, ?_, ?_, ?_⟩
                  · rw [f3, List.map_append, List.append_assoc]; rfl
                  · intro p hp
                    rcases List.mem_append.mp hp with hp | hp
                    · exact f4 p hp
                    · rw [List.mem_singleton.mp hp]; exact hjo
                  · rw [List.map_append]; rfl
end Tx
/-! gathered patterns: what they are; news -/
namespace Tx
open PySem PySem.Spec L2 Pl
theorem gat_ok {sp le : Int} {ls : List Str} (hz : ∀ z ∈ ls, IsLn 12 z) : ∀ p ∈ gat sp le ls, OkPat p := by
  have key : ∀ (f : Nat) (rows : List Row), rows ≠ [] → (∀ r ∈ rows, okRow r) → ∀ p ∈ grpP sp le f rows, OkPat p := by
    intro f
    induction f with
    | zero => intro rows h0 h p hp; rw [List.mem_singleton.mp hp]; exact joinR_ok h0 h
    | succ f ih =>
      intro rows h0 h p hp
      unfold grpP at hp
      cases hb : bestPl sp le rows (lenR rows) with
      | none => rw [hb] at hp; rw [List.mem_singleton.mp hp]; exact joinR_ok h0 h
      | some i =>
        rw [hb] at hp
        obtain ⟨w, hw, hp⟩ := List.mem_flatMap.mp hp
        exact ih _ (pickR_ne (mem_nubF.mp hw)) (fun r hr => h r (pickR_mem.mp hr).1) p hp
  intro p hp
  unfold gat at hp
  obtain ⟨m, _, hp⟩ := List.mem_flatMap.mp ((inOrder_perm _).mem_iff.mp hp)
  unfold gatM at hp
  split at hp
  · cases hp
  · rename_i hne
    exact key _ _ (fun e => hne (List.map_eq_nil_iff.mp e)) (rowsM_ok hz) p hp
theorem sum_flat {α β : Type} (f : α → List β) (g : α → Nat) : ∀ l : List α, (∀ x ∈ l, (f x).length ≤ g x) → (l.flatMap f).length ≤ (l.map g).sum
  | [], _ => Nat.le_refl _
  | x :: l, h => by
    rw [List.flatMap_cons, List.length_append, List.map_cons, List.sum_cons]
    have := h x (List.mem_cons_self ..)
    have := sum_flat f g l fun y hy => h y (List.mem_cons_of_mem _ hy)
    omega
theorem grpP_len (sp le : Int) : ∀ (f : Nat) (rows : List Row), rows ≠ [] → (grpP sp le f rows).length ≤ rows.length
  | 0, rows, h0 => List.length_pos_iff.mpr h0
  | f + 1, rows, h0 => by
    unfold grpP
    cases hb : bestPl sp le rows (lenR rows) with
    | none => exact List.length_pos_iff.mpr h0
    | some i =>
      have h1 := sum_flat (fun w => grpP sp le f (pickR rows i w)) (fun w => (pickR rows i w).length) (nubF (colW rows i)) fun w hw => grpP_len sp le f _ (pickR_ne (mem_nubF.mp hw))
      have h2 := picks_len i (nubF (colW rows i)) (nubF_nodup _) rows
      exact Nat.le_trans h1 h2
theorem gat_len (sp le : Int) (ls : List Str) (hl : ls.length ≤ 130) : (gat sp le ls).length ≤ 2000 := by
  unfold gat
  rw [(inOrder_perm _).length_eq]
  have h := sum_flat (gatM sp le ls) (fun _ => 130) (List.range' 1 12) fun m _ => by
    unfold gatM
    split
    · exact Nat.zero_le _
    · rename_i hne
      have h1 := grpP_len sp le fuel (rowsM ls m) (fun e => hne (List.map_eq_nil_iff.mp e))
      have h2 := linesM_len ls m
      have h3 : (rowsM ls m).length = (linesM ls m).length := List.length_map ..
      omega
  have e : ((List.range' 1 12).map fun _ => 130).sum = 1560 := by decide
  rw [e] at h
  omega
/-! each line fits one of its gathered patterns -/
theorem joinR_fits {rows : List Row} {k : Nat} (hk : ∀ r ∈ rows, r.length = k) {r : Row} (hr : r ∈ rows) : fitsWs (joinR rows) r = true := by
  unfold joinR
  cases rows with
  | nil => cases hr
  | cons t rest =>
    refine joinP_fitsWs (x := ofWs r) (fun q hq => ?_) (List.mem_map_of_mem hr) (ofWs_fits r)
    obtain ⟨u, hu, rfl⟩ := List.mem_map.mp hq
    unfold ofWs
    rw [List.length_map, List.length_map, hk u (List.mem_cons_of_mem _ hu), hk t (List.mem_cons_self ..)]
theorem grpP_fits {sp le : Int} {k : Nat} : ∀ (f : Nat) {rows : List Row}, (∀ r ∈ rows, r.length = k) → ∀ r ∈ rows, ∃ p ∈ grpP sp le f rows, fitsWs p r = true
  | 0, rows, hk, r, hr => ⟨joinR rows, List.mem_singleton.mpr rfl, joinR_fits hk hr⟩
  | f + 1, rows, hk, r, hr => by
    unfold grpP
    cases hb : bestPl sp le rows (lenR rows) with
    | none => exact ⟨joinR rows, List.mem_singleton.mpr rfl, joinR_fits hk hr⟩
    | some i =>
      have hw : wAt r i ∈ nubF (colW rows i) := mem_nubF.mpr (List.mem_map_of_mem hr)
      obtain ⟨p, hp, e⟩ := grpP_fits (sp := sp) (le := le) f (rows := pickR rows i (wAt r i)) (fun t ht => hk t (pickR_mem.mp ht).1) r (pickR_mem.mpr ⟨hr, rfl⟩)
      exact ⟨p, List.mem_flatMap.mpr ⟨_, hw, hp⟩, e⟩
theorem gat_fits {sp le : Int} {ls : List Str} (hz : ∀ z ∈ ls, IsLn 12 z) {z : Str} (h : z ∈ ls) : ∃ p ∈ gat sp le ls, fitsP p z = true := by
  have hr := (hz z h).row
  have hm : wc z ∈ List.range' 1 12 := by
    rw [List.mem_range'_1]
    have := List.length_pos_iff.mpr hr.1
    unfold wc
    omega
  have hne : linesM ls (wc z) ≠ [] := linesM_ne.mpr (List.mem_map_of_mem h)
  have hrow : Txt.split z " " ∈ rowsM ls (wc z) := by
    unfold rowsM linesM
    exact List.mem_map.mpr ⟨z, List.mem_filter.mpr ⟨mem_nubF.mpr h, decide_eq_true rfl⟩, rfl⟩
  obtain ⟨p, hp, e⟩ := grpP_fits (sp := sp) (le := le) fuel rowsM_len _ hrow
  refine ⟨p, (inOrder_perm _).mem_iff.mpr (List.mem_flatMap.mpr ⟨_, hm, ?_⟩), e⟩
  unfold gatM
  rw [if_neg hne]
  exact hp
/-- whether a line is news -/
def isNews (sp le : Int) (ls : List Str) (i : Nat) : Bool := !((gat sp le (ls.take i)).any fun p => fitsP p (ls.getD i ""))
def newsN (sp le : Int) (ls : List Str) : List Nat := (List.range ls.length).filter (isNews sp le ls)
def natD (i : Nat) : Pl.D := .int (i : Int)
theorem newsN_step (sp le : Int) (ls : List Str) (n : Nat) : (List.range (n + 1)).filter (isNews sp le ls) = (List.range n).filter (isNews sp le ls) ++ if isNews sp le ls n = true then [n] else [] := by
  rw [List.range_succ, List.filter_append, List.filter_cons, List.filter_nil]
theorem take_strs (ls : List Str) (n : Nat) : cutD (ls.map Pl.D.str) none (some (n : Int)) = (ls.take n).map .str := by rw [cut_take, List.map_take]
theorem str_ix {ls : List Str} {n : Nat} (h : n < ls.length) : atI (ls.map Pl.D.str) (n : Int) = some (.str (ls.getD n "")) := by
  unfold atI
  rw [ixN_in (by omega) (by rw [List.length_map]; omega)]
  show (ls.map Pl.D.str)[n]? = _
  rw [List.getElem?_map, List.getD_eq_getElem?_getD, List.getElem?_eq_getElem h]; rfl
theorem getD_in {ls : List Str} {n : Nat} (h : n < ls.length) : ls.getD n "" ∈ ls := by
  rw [List.getD_eq_getElem?_getD, List.getElem?_eq_getElem h]
  exact List.getElem_mem h
theorem enum_strs (ls : List Str) : enumD 0 (ls.map Pl.D.str) = (List.range ls.length).map fun i => Pl.D.tuple [natD i, .str (ls.getD i "")] := by
  refine List.ext_getElem? fun i => ?_
  rw [enumD_get, List.getElem?_map, List.getElem?_map]
  by_cases h : i < ls.length
  · rw [List.getElem?_range h, List.getElem?_eq_getElem h, Nat.zero_add]
    show some (Pl.D.tuple [.int (i : Int), .str ls[i]]) = some (Pl.D.tuple [natD i, .str (ls.getD i "")])
    rw [List.getD_eq_getElem?_getD, List.getElem?_eq_getElem h]; rfl
  · rw [List.getElem?_eq_none (by omega), List.getElem?_eq_none (by rw [List.length_range]; omega)]; rfl
end Tx
/-! lists of texts and of numbers against one another; news, its laws -/
namespace Pl
open PySem PySem.Spec L2
open PySem.W (Datum)
theorem er_strs (xs : List Str) : er (.list (xs.map .str)) = Datum.toD xs := Tx.er_map (f := fun i : Str => Pl.D.str i) (g := fun i => i) (fun _ => rfl) xs |>.trans (by rw [List.map_id'])
theorem er_nats (xs : List Nat) : er (.list (xs.map fun i : Nat => Pl.D.int (i : Int))) = Datum.toD (xs.map fun i : Nat => (i : Int)) := Tx.er_map (f := fun i : Nat => Pl.D.int (i : Int)) (g := fun i => (i : Int)) (fun _ => rfl) xs
theorem eqv_strs (xs ys : List Str) : (er (.list (xs.map .str))).eqv (er (.list (ys.map .str))) = decide (xs = ys) := by rw [er_strs, er_strs, Datum.eqv]
theorem d_strs (xs : List Str) : (er (.list (xs.map .str))).depth ≤ 64 := by rw [er_strs]; exact Nat.le_trans (Datum.depth_le _) (by decide)
theorem eqv_nats (xs ys : List Nat) : (er (.list (xs.map fun i : Nat => Pl.D.int (i : Int)))).eqv (er (.list (ys.map fun i : Nat => Pl.D.int (i : Int)))) = decide (xs = ys) := by
  rw [er_nats, er_nats, Datum.eqv]
  have inj : ∀ a b : List Nat, a.map (fun i : Nat => (i : Int)) = b.map (fun i : Nat => (i : Int)) → a = b := fun a b h => by
    have := congrArg (List.map Int.toNat) h
    rw [List.map_map, List.map_map, show Int.toNat ∘ (fun i : Nat => (i : Int)) = id from funext fun i => Int.toNat_natCast i, List.map_id, List.map_id] at this
    exact this
  by_cases h : xs = ys
  · subst h; simp
  · rw [decide_eq_false h, decide_eq_false fun e => h (inj _ _ e)]
theorem d_nats (xs : List Nat) : (er (.list (xs.map fun i : Nat => Pl.D.int (i : Int)))).depth ≤ 64 := by rw [er_nats]; exact Nat.le_trans (Datum.depth_le _) (by decide)
theorem inD_nats (n : Nat) (M : List Nat) : inD false (er (.int (n : Int))) ((M.map fun i : Nat => Pl.D.int (i : Int)).map er) = decide (n ∈ M) := by
  show ((M.map fun i : Nat => Pl.D.int (i : Int)).map er).any (fun y => PyData.eqv y (er (.int (n : Int)))) = _
  rw [List.map_map, List.any_map]
  induction M with
  | nil => rfl
  | cons m M ih =>
    rw [List.any_cons, ih]
    show ((er (.int (m : Int))).eqv (er (.int (n : Int))) || _) = _
    rw [eqv_int]
    by_cases h : m = n
    · subst h; simp
    · have h' : ¬ n = m := fun e => h e.symm
      have h2 : ¬ ((m : Int) = (n : Int)) := fun e => h (by omega)
      rw [decide_eq_false h2, Bool.false_or]
      by_cases h3 : n ∈ M
      · rw [decide_eq_true h3, decide_eq_true (List.mem_cons_of_mem _ h3)]
      · rw [decide_eq_false h3, decide_eq_false fun e => (List.mem_cons.mp e).elim h' h3]
end Pl
namespace Tx
open PySem PySem.Spec L2 Pl
theorem gat_none (sp le : Int) : gat sp le [] = [] := by
  unfold gat
  have e : (List.range' 1 12).flatMap (gatM sp le []) = [] := rfl
  rw [e]
  exact List.perm_nil.mp (inOrder_perm [])
theorem newsN_app (sp le : Int) (ls ms : List Str) : newsN sp le (ls ++ ms) = newsN sp le ls ++ ((List.range ms.length).map (ls.length + ·)).filter (isNews sp le (ls ++ ms)) := by
  unfold newsN
  rw [List.length_append, List.range_add, List.filter_append]
  congr 1
  refine List.filter_congr fun i hi => ?_
  have hi := List.mem_range.mp hi
  unfold isNews
  rw [List.take_append_of_le_length (by omega)]
  have : (ls ++ ms).getD i "" = ls.getD i "" := by
    rw [List.getD_eq_getElem?_getD, List.getD_eq_getElem?_getD, List.getElem?_append_left hi]
  rw [this]
theorem newsN_take (sp le : Int) (ls ms : List Str) : (newsN sp le (ls ++ ms)).take (newsN sp le ls).length = newsN sp le ls := by
  rw [newsN_app, List.take_left']
  rfl
theorem newsN_head (sp le : Int) (ls : List Str) : (newsN sp le ls).take 1 = [0].take ls.length := by
  cases ls with
  | nil => rfl
  | cons z ls =>
    unfold newsN
    rw [List.length_cons, List.range_succ_eq_map, List.filter_cons]
    have : isNews sp le (z :: ls) 0 = true := by
      unfold isNews
      rw [List.take_zero, gat_none]; rfl
    rw [this]
    simp
theorem newsN_old {sp le : Int} {ls : List Str} (hz : ∀ z ∈ ls, IsLn 12 z) (ms : List Str) (n : Nat) {i : Nat} (hi : i < n) (hn : n < ls.length) (e : ls.getD n "" = ls.getD i "") : n ∉ newsN sp le (ls ++ ms) := by
  intro h
  rw [newsN, List.mem_filter] at h
  have h := h.2
  unfold isNews at h
  have e1 : (ls ++ ms).getD n "" = ls.getD n "" := by
    rw [List.getD_eq_getElem?_getD, List.getD_eq_getElem?_getD, List.getElem?_append_left hn]
  rw [e1, List.take_append_of_le_length (by omega), e] at h
  have hm : ls.getD i "" ∈ ls.take n := by
    rw [List.getD_eq_getElem?_getD, List.getElem?_eq_getElem (by omega)]
    show ls[i] ∈ _
    rw [List.mem_take_iff_getElem]
    exact ⟨i, by omega, rfl⟩
  obtain ⟨p, hp, ef⟩ := gat_fits (sp := sp) (le := le) (fun z h => hz z (mem_take h)) hm
  have : ((gat sp le (ls.take n)).any fun p => fitsP p (ls.getD i "")) = true := List.any_eq_true.mpr ⟨p, hp, ef⟩
  rw [this] at h
  cases h
end Tx
/-! gathered patterns are pairwise unlike -/
namespace Tx
open PySem PySem.Spec L2 Pl
theorem ofWs_at {r : Row} {i : Nat} (h : i < r.length) : (ofWs r).getD i hole = .w (wAt r i) := by
  unfold ofWs wAt
  rw [List.getD_eq_getElem?_getD, List.getElem?_map, List.getElem?_eq_getElem h, List.getD_eq_getElem?_getD, List.getElem?_eq_getElem h]; rfl
theorem joinPt_alike {p : Pt} {r : List Pt} (h : ∀ x ∈ r, x = p) : joinPt p r = p := by
  unfold joinPt
  rw [if_pos (List.all_eq_true.mpr fun x hx => decide_eq_true (by
    rcases List.mem_cons.mp hx with rfl | hx
    · rfl
    · exact h x hx))]
theorem joinR_len {rows : List Row} {k : Nat} (h0 : rows ≠ []) (hk : ∀ r ∈ rows, r.length = k) : (joinR rows).length = k := by
  cases rows with
  | nil => exact absurd rfl h0
  | cons r t =>
    show (joinP (ofWs r :: t.map ofWs)).length = k
    rw [joinP_len]
    unfold ofWs
    rw [List.length_map, hk r (List.mem_cons_self ..)]
theorem joinR_word {rows : List Row} {k : Nat} (h0 : rows ≠ []) (hk : ∀ r ∈ rows, r.length = k) {i : Nat} (hi : i < k) {w : Str} (hw : ∀ r ∈ rows, wAt r i = w) : (joinR rows).getD i hole = .w w := by
  cases rows with
  | nil => exact absurd rfl h0
  | cons r t =>
    show (joinP (ofWs r :: t.map ofWs)).getD i hole = _
    have hr := hk r (List.mem_cons_self ..)
    rw [joinP_at _ _ (by unfold ofWs; rw [List.length_map]; omega), ofWs_at (by omega), hw r (List.mem_cons_self ..)]
    refine joinPt_alike fun x hx => ?_
    obtain ⟨q, hq, rfl⟩ := List.mem_map.mp hx
    obtain ⟨u, hu, rfl⟩ := List.mem_map.mp hq
    rw [ofWs_at (by rw [hk u (List.mem_cons_of_mem _ hu)]; exact hi), hw u (List.mem_cons_of_mem _ hu)]
theorem grpP_plen {sp le : Int} {k : Nat} : ∀ (f : Nat) {rows : List Row}, rows ≠ [] → (∀ r ∈ rows, r.length = k) → ∀ p ∈ grpP sp le f rows, p.length = k
  | 0, rows, h0, hk, p, hp => by rw [List.mem_singleton.mp hp]; exact joinR_len h0 hk
  | f + 1, rows, h0, hk, p, hp => by
    unfold grpP at hp
    cases hb : bestPl sp le rows (lenR rows) with
    | none => rw [hb] at hp; rw [List.mem_singleton.mp hp]; exact joinR_len h0 hk
    | some i =>
      rw [hb] at hp
      obtain ⟨w, hw, hp⟩ := List.mem_flatMap.mp hp
      exact grpP_plen f (pickR_ne (mem_nubF.mp hw)) (fun r hr => hk r (pickR_mem.mp hr).1) p hp
theorem grpP_word {sp le : Int} {k : Nat} {i : Nat} (hi : i < k) {w : Str} : ∀ (f : Nat) {rows : List Row}, rows ≠ [] → (∀ r ∈ rows, r.length = k) → (∀ r ∈ rows, wAt r i = w) → ∀ p ∈ grpP sp le f rows, p.getD i hole = .w w
  | 0, rows, h0, hk, hw, p, hp => by rw [List.mem_singleton.mp hp]; exact joinR_word h0 hk hi hw
  | f + 1, rows, h0, hk, hw, p, hp => by
    unfold grpP at hp
    cases hb : bestPl sp le rows (lenR rows) with
    | none => rw [hb] at hp; rw [List.mem_singleton.mp hp]; exact joinR_word h0 hk hi hw
    | some j =>
      rw [hb] at hp
      obtain ⟨u, hu, hp⟩ := List.mem_flatMap.mp hp
      exact grpP_word hi f (pickR_ne (mem_nubF.mp hu)) (fun r hr => hk r (pickR_mem.mp hr).1) (fun r hr => hw r (pickR_mem.mp hr).1) p hp
theorem lenR_eq {rows : List Row} {k : Nat} (h0 : rows ≠ []) (hk : ∀ r ∈ rows, r.length = k) : lenR rows = k := by
  cases rows with
  | nil => exact absurd rfl h0
  | cons r t => exact hk r (List.mem_cons_self ..)
theorem grpP_nodup {sp le : Int} {k : Nat} : ∀ (f : Nat) {rows : List Row}, rows ≠ [] → (∀ r ∈ rows, r.length = k) → (grpP sp le f rows).Nodup
  | 0, rows, h0, hk => by show [joinR rows].Nodup; simp
  | f + 1, rows, h0, hk => by
    unfold grpP
    cases hb : bestPl sp le rows (lenR rows) with
    | none => show [joinR rows].Nodup; simp
    | some i =>
      have hi : i < k := by have := (bestPl_fit hb).1; rwa [lenR_eq h0 hk] at this
      show (List.flatMap _ _).Nodup
      unfold List.Nodup
      rw [List.pairwise_flatMap]
      have sub : ∀ w ∈ nubF (colW rows i), pickR rows i w ≠ [] ∧ (∀ r ∈ pickR rows i w, r.length = k) ∧ ∀ r ∈ pickR rows i w, wAt r i = w := fun w hw => ⟨pickR_ne (mem_nubF.mp hw), fun r hr => hk r (pickR_mem.mp hr).1, fun r hr => (pickR_mem.mp hr).2⟩
      refine ⟨fun w hw => grpP_nodup f (sub w hw).1 (sub w hw).2.1, ?_⟩
      refine List.Pairwise.imp_of_mem (fun {w u} hw hu n => ?_) (nubF_nodup (colW rows i))
      intro p hp q hq e
      subst e
      have e1 := grpP_word hi f (sub w hw).1 (sub w hw).2.1 (sub w hw).2.2 p hp
      have e2 := grpP_word hi f (sub u hu).1 (sub u hu).2.1 (sub u hu).2.2 p hq
      rw [e1] at e2
      cases e2
      exact n rfl
theorem rowsM_ne {ls : List Str} {m : Nat} (h : linesM ls m ≠ []) : rowsM ls m ≠ [] := fun e => h (List.map_eq_nil_iff.mp e)
theorem gatM_len {sp le : Int} {ls : List Str} {m : Nat} : ∀ p ∈ gatM sp le ls m, p.length = m := by
  intro p hp
  unfold gatM at hp
  split at hp
  · cases hp
  · rename_i h
    exact grpP_plen _ (rowsM_ne h) rowsM_len p hp
theorem gatM_nodup (sp le : Int) (ls : List Str) (m : Nat) : (gatM sp le ls m).Nodup := by
  unfold gatM
  split
  · simp
  · rename_i h
    exact grpP_nodup _ (rowsM_ne h) rowsM_len
theorem gat_nodup (sp le : Int) (ls : List Str) : (gat sp le ls).Nodup := by
  unfold gat
  rw [(inOrder_perm _).nodup_iff]
  unfold List.Nodup
  rw [List.pairwise_flatMap]
  refine ⟨fun m _ => gatM_nodup sp le ls m, ?_⟩
  refine List.Pairwise.imp (fun {m n} h => ?_) (List.nodup_range' (s := 1) (n := 12))
  intro p hp q hq e
  subst e
  exact h ((gatM_len p hp).symm.trans (gatM_len p hq))
theorem inD_pats {q : Pat} {gs : List Pat} : inD false (er (nwPat q)) ((gs.map nwPat).map er) = decide (q ∈ gs) := by
  show ((gs.map nwPat).map er).any (fun y => PyData.eqv y (er (nwPat q))) = _
  rw [List.map_map, List.any_map]
  induction gs with
  | nil => rfl
  | cons m M ih =>
    rw [List.any_cons, ih]
    show ((er (nwPat m)).eqv (er (nwPat q)) || _) = _
    rw [eqv_pat (p := m) (q := q) rfl rfl]
    by_cases h : m = q
    · subst h; simp
    · rw [decide_eq_false h, Bool.false_or]
      by_cases h3 : q ∈ M
      · rw [decide_eq_true h3, decide_eq_true (List.mem_cons_of_mem _ h3)]
      · rw [decide_eq_false h3, decide_eq_false fun e => (List.mem_cons.mp e).elim (fun e => h e.symm) h3]
theorem nodup_take {α : Type} [Inhabited α] {l : List α} (h : l.Nodup) {k : Nat} (hk : k < l.length) : l[k] ∉ l.take k := by
  intro hm
  obtain ⟨i, hi, e⟩ := List.mem_take_iff_getElem.mp hm
  exact List.pairwise_iff_getElem.mp h i k (by omega) hk (by omega) e
end Tx
/-! is_word, line_place, in_order, filled -/
namespace Tx
open PySem PySem.Spec L2 Pl
/-! is_word of a text -/
def isWd (w : Str) : Bool := decide (w ≠ "") && w.cps.toList.all fun c => decide (okc c)
theorem isWd_of {w : Str} (h : IsWd w) : isWd w = true := by
  have h0 : w ≠ "" := fun e => by have := h.1; rw [e] at this; revert this; decide
  unfold isWd
  rw [decide_eq_true h0, Bool.true_and, List.all_eq_true]
  exact fun c hc => decide_eq_true (h.2.2 c hc)
def C_isWord : Con := fun os post => ∃ w : Str, os = [.sh (.str w)] ∧ w.length ≤ sizeLine ∧ post (.sh (.bool (isWd w))) os
theorem h_isWord : ∀ os post, C_isWord os post → os.length = 1 ∧ r_is_word (dEnds [] os post) (start0 N_is_word.length os) := by
  rintro os post ⟨w, rfl, hl, k⟩
  refine ⟨rfl, ?_⟩
  have ew : (er (vw (.str w))).eqv (er (vw (.str ""))) = decide (w = "") := eqv_str w ""
  have rest : w ≠ "" → zSeq r_is_word_2 zNx (dEnds [] [.sh (.str w)] post) [some (.sh (.str w)), none] := by
    intro h0
    refine tests_ok (i := 1) (w := w) (f := fun c => decide (okc c)) hl _ (fun K h => h) (Nat.lt_succ_self 1) (fun _ => rfl) (fun c R h => ?_) ?_
    · refine chE_sgn 33 36 rfl ?_
      have e : okc c ↔ (33 ≤ c ∧ c ≤ 36) ∨ (38 ≤ c ∧ c ≤ 126) := Iff.rfl
      by_cases h1 : 33 ≤ c ∧ c ≤ 36
      · rw [decide_eq_true h1]
        rw [decide_eq_true (e.mpr (.inl h1))] at h
        exact h
      · rw [decide_eq_false h1]
        refine chE_sgn 38 126 rfl ?_
        by_cases h2 : 38 ≤ c ∧ c ≤ 126
        · rw [decide_eq_true h2]
          rw [decide_eq_true (e.mpr (.inr h2))] at h
          exact h
        · rw [decide_eq_false h2]
          rw [decide_eq_false fun z => (e.mp z).elim h1 h2] at h
          exact h
    · conv => whnf
      rw [boolsOf_map]
      have : isWd w = (w.cps.toList.map fun c => decide (okc c)).all id := by
        unfold isWd
        rw [decide_eq_true h0, Bool.true_and, List.all_map]; rfl
      rw [this] at k
      exact k
  conv => whnf
  refine ⟨dR (Nat.zero_le _), ?_⟩
  conv => whnf
  rw [ew]
  by_cases h0 : w = ""
  · rw [decide_eq_true h0]
    subst h0
    exact k
  · rw [decide_eq_false h0]
    exact rest h0
/-! line_place -/
def wplD (w : Str) : Pl.D := .tuple [.int w.length, .str w]
def lplD (z : Str) : Pl.D := .tuple [.int (Txt.split z " ").length, .nl ((Txt.split z " ").map wplD)]
def C_lnPlace : Con := fun os post => ∃ z : Str, os = [.sh (.str z)] ∧ IsLn 12 z ∧ post (.sh (lplD z)) os
theorem h_lnPlace : ∀ os post, C_lnPlace os post → os.length = 1 ∧ r_line_place C_wplace C_words (dEnds [] os post) (start0 N_line_place.length os) := by
  rintro os post ⟨z, rfl, hz, k⟩
  refine ⟨rfl, ?_⟩
  have zl := hz.len
  conv => whnf
  refine ⟨z, rfl, by omega, ?_⟩
  obtain ⟨w1, w2, w3, _⟩ := hz.row
  unfold lplD at k
  generalize Txt.split z " " = ws at w1 w2 w3 k
  conv => whnf
  refine ⟨by rw [List.length_map]; exact Nat.le_of_lt (small (by omega)), ?_⟩
  refine lc_mt id Pl.D.str (fun w => some (wplD w)) (fun w => IsWd w) [some (.sh (.str z)), some (.sh (.nl (ws.map .str))), none] ?_ _ ws _ (by rw [List.map_id]) w3 ?_
  · rintro d w hd hw R acc hR
    have hd : d = .str w := hd
    subst hd
    conv => whnf
    refine ⟨w, rfl, Nat.le_of_lt (small (by have := hw.2.1; omega)), ?_⟩
    exact hR
  rw [fm_some, List.nil_append]
  conv => whnf
  rw [List.length_map]
  exact k
/-! lines in order -/
abbrev LK := Int × List (Int × Str)
def lk (z : Str) : LK := ((Txt.split z " ").length, (Txt.split z " ").map fun w => ((w.length : Int), w))
open PySem.W in
def llt (a b : Str) : Bool := DatumOrd.lt (lk a, a) (lk b, b)
def lle (a b : Str) : Bool := !llt b a
def lnOrder (ls : List Str) : List Str := ls.mergeSort lle
def itL (z : Str) : Pl.D := .tuple [lplD z, .str z]
theorem er_wpl (w : Str) : er (wplD w) = PySem.W.Datum.toD ((w.length : Int), w) := rfl
theorem er_itL (z : Str) : er (itL z) = PySem.W.Datum.toD (lk z, z) := by
  show PyData.tuple [.tuple [.int (Txt.split z " ").length, er (.nl ((Txt.split z " ").map wplD))], .str z] = _
  rw [er_map er_wpl]; rfl
theorem er_itLs (ls : List Str) : (ls.map itL).map er = (ls.map fun z => (lk z, z)).map PySem.W.Datum.toD := by
  rw [List.map_map, List.map_map]
  exact List.map_congr_left fun z _ => er_itL z
open PySem.W in
theorem sortL (ls : List Str) : (ls.map itL).mergeSort (dataLe false er) = (lnOrder ls).map itL := by
  refine (sort_maps itL fun p _ q _ => ?_).symm
  show (!llt q p) = !dataLt (er (itL q)) (er (itL p))
  rw [er_itL, er_itL, DatumOrd.lt_eq]; rfl
open PySem.W in
theorem sortL_ok (ls : List Str) : AllAlike ((ls.map itL).map er) ∧ Sortable ((ls.map itL).map er) ∧ PyData.depthAll ((ls.map itL).map er) ≤ 64 := by
  rw [er_itLs]
  exact ⟨AllAlike.of fun _ _ => DatumOrd.alike _ _, Sortable.tuples fun p => ⟨_, _, rfl⟩, Nat.le_trans (depthAll_map _) (by decide)⟩
theorem lnOrder_perm (ls : List Str) : (lnOrder ls).Perm ls := List.mergeSort_perm ls lle
def C_inOrder : Con := fun os post => ∃ ls : List Str, os = [.sh (.list (ls.map .str))] ∧ ls.length ≤ 10000 ∧ (∀ z ∈ ls, IsLn 12 z) ∧ post (.fl ((lnOrder ls).map .str)) os
theorem h_inOrder : ∀ os post, C_inOrder os post → os.length = 1 ∧ r_in_order C_lnPlace (dEnds [] os post) (start0 N_in_order.length os) := by
  rintro os post ⟨ls, rfl, hl, hz, k⟩
  refine ⟨rfl, ?_⟩
  conv => whnf
  refine ⟨by rw [List.length_map]; exact Nat.le_of_lt (small (by omega)), ?_⟩
  refine lc_mt id Pl.D.str (fun z => some (itL z)) (fun z => IsLn 12 z) [some (.sh (.list (ls.map .str))), none, none] ?_ _ ls _ (by rw [List.map_id]) hz ?_
  · rintro d z hd hz R acc hR
    have hd : d = .str z := hd
    subst hd
    conv => whnf
    refine ⟨z, rfl, hz, ?_⟩
    exact hR
  rw [fm_some, List.nil_append]
  conv => whnf
  obtain ⟨z1, z2, z3⟩ := sortL_ok ls
  refine ⟨z1, z2, z3, ?_⟩
  conv => whnf
  rw [sortL]
  refine ⟨by rw [List.length_map, (lnOrder_perm ls).length_eq]; exact Nat.le_of_lt (small (by omega)), ?_⟩
  refine lc_mt id itL (fun z => some (.str z)) (fun _ => True) [some (.sh (.list (ls.map .str))), none, none] ?_ _ (lnOrder ls) _ (by rw [List.map_id]) (fun _ _ => trivial) ?_
  · rintro d z hd _ R acc hR
    have hd : d = itL z := hd
    subst hd
    exact hR
  rw [fm_some, List.nil_append]
  exact k
end Tx
/-! filled -/
namespace Tx
open PySem PySem.Spec L2 Pl
/-- the words of a pattern that is filled -/
def fillP : Pat → List Str → Option (List Str)
  | [], [] => some []
  | [], _ :: _ => none
  | .w s :: p, fs => (fillP p fs).map (s :: ·)
  | .h _ :: _, [] => none
  | .h k :: p, f :: fs => if fitsPt (.h k) f then (fillP p fs).map (f :: ·) else none
theorem fillP_ofWs (ws : List Str) : fillP (ofWs ws) [] = some ws := by
  induction ws with
  | nil => rfl
  | cons w ws ih =>
    show (fillP (ofWs ws) []).map (w :: ·) = _
    rw [ih]; rfl
theorem fillP_len : ∀ {p : Pat} {fs ws : List Str}, fillP p fs = some ws → ws.length = p.length
  | [], [], ws, h => by cases h; rfl
  | [], _ :: _, ws, h => by cases h
  | .w s :: p, fs, ws, h => by
    cases e : fillP p fs with
    | none => rw [fillP, e] at h; cases h
    | some u =>
      rw [fillP, e] at h
      cases h
      rw [List.length_cons, List.length_cons, fillP_len e]
  | .h _ :: _, [], ws, h => by cases h
  | .h k :: p, f :: fs, ws, h => by
    unfold fillP at h
    split at h
    · cases e : fillP p fs with
      | none => rw [e] at h; cases h
      | some u =>
        rw [e] at h
        cases h
        rw [List.length_cons, List.length_cons, fillP_len e]
    · cases h
def C_filled : Con := fun os post => ∃ (p : Pat) (fs ws : List Str), os = [.sh (enPat p), .sh (.list (fs.map .str))] ∧ OkPat p ∧ fs.length ≤ 1000 ∧ (∀ f ∈ fs, IsWd f) ∧ fillP p fs = some ws ∧ post (.sh (.str (Txt.join " " ws))) os
theorem h_filled : ∀ os post, C_filled os post → os.length = 2 ∧ r_filled C_isWord C_fitsPt (dEnds [] os post) (start0 N_filled.length os) := by
  rintro os post ⟨p, fs, ws, rfl, hp, hfl, hf, hw, k⟩
  refine ⟨rfl, ?_⟩
  conv => whnf
  refine loop_ind (fun dr ρ => ∃ (q : Pat) (gs acc us : List Str) (a4 : Option O), dr = q.map enP ∧ (∀ x ∈ q, OkPt x) ∧ (∀ f ∈ gs, IsWd f) ∧ (∀ f ∈ acc, IsWd f) ∧ fillP q gs = some us ∧ acc ++ us = ws ∧ acc.length + q.length ≤ 1000 ∧ ρ = [some (.sh (enPat p)), some (.sh (.list (fs.map .str))), some (.fl (gs.map .str)), some (.fl (acc.map .str)), a4]) ?_ ?_ _ _ ⟨p, fs, [], ws, none, rfl, hp.2, hf, by simp, hw, rfl, by have := hp.1; rw [List.length_nil]; omega, rfl⟩
  · rintro ρ ⟨q, gs, acc, us, a4, e1, e2, e3, e4, e5, e6, e7, rfl⟩
    have eq : q = [] := List.map_eq_nil_iff.mp e1.symm
    subst eq
    cases gs with
    | cons g gs => cases e5
    | nil =>
      cases e5
      rw [List.append_nil] at e6
      subst e6
      conv => whnf
      refine ⟨dR d_nil, ?_⟩
      conv => whnf
      rw [strsOf_map]
      conv => whnf
      refine ⟨?_, k⟩
      have h1 := sum_le 1000 acc fun w hw => (e4 w hw).2.1
      have h3 : (" " : Str).length = 1 := by decide
      have e7 : acc.length ≤ 1000 := by simpa using e7
      show (acc.map (·.length)).sum + acc.length * (" " : Str).length ≤ 16777216
      rw [h3]
      omega
  · rintro d dr ρ R ⟨q, gs, acc, us, a4, e1, e2, e3, e4, e5, e6, e7, rfl⟩ hR
    cases q with
    | nil => cases e1
    | cons x q =>
      rw [List.map_cons, List.cons.injEq] at e1
      obtain ⟨rfl, rfl⟩ := e1
      rw [List.length_cons] at e7
      have hx := e2 x (List.mem_cons_self ..)
      have hq := fun y (h : y ∈ q) => e2 y (List.mem_cons_of_mem _ h)
      have hal : (acc.map Pl.D.str).length < sizeLine := by rw [List.length_map]; exact small (by omega)
      cases x with
      | w s =>
        cases e : fillP q gs with
        | none => rw [fillP, e] at e5; cases e5
        | some u =>
          rw [fillP, e] at e5
          cases e5
          conv => whnf
          refine ⟨dR (Nat.zero_le _), ?_⟩
          conv => whnf
          refine ⟨hal, ?_⟩
          refine hR _ ⟨q, gs, acc ++ [s], u, _, rfl, hq, e3, fun f hf => ?_, e, by rw [← e6]; simp, by rw [List.length_append, List.length_singleton]; omega, by rw [List.map_append]; rfl⟩
          rcases List.mem_append.mp hf with hf | hf
          · exact e4 f hf
          · rw [List.mem_singleton.mp hf]; exact hx
      | h kk =>
        cases gs with
        | nil => cases e5
        | cons g gs =>
          unfold fillP at e5
          split at e5
          · rename_i hfit
            cases e : fillP q gs with
            | none => rw [e] at e5; cases e5
            | some u =>
              rw [e] at e5
              cases e5
              have hg := e3 g (List.mem_cons_self ..)
              conv => whnf
              refine ⟨dR (Nat.zero_le _), ?_⟩
              conv => whnf
              refine ⟨dR d_nil, ?_⟩
              conv => whnf
              rw [at_hmap]
              conv => whnf
              refine ⟨g, rfl, Nat.le_of_lt (small (by have := hg.2.1; omega)), ?_⟩
              rw [isWd_of hg]
              conv => whnf
              rw [at_hmap]
              conv => whnf
              refine ⟨.h kk, g, rfl, by have := hg.2.1; omega, ?_⟩
              rw [hfit]
              conv => whnf
              refine ⟨hal, ?_⟩
              refine hR _ ⟨q, gs, acc ++ [g], u, _, rfl, hq, fun f hf => e3 f (List.mem_cons_of_mem _ hf), fun f hf => ?_, e, by rw [← e6]; simp, by rw [List.length_append, List.length_singleton]; omega, by rw [List.map_append]; rfl⟩
              rcases List.mem_append.mp hf with hf | hf
              · exact e4 f hf
              · rw [List.mem_singleton.mp hf]; exact hg
          · cases e5
end Tx
/-! news -/
namespace Tx
open PySem PySem.Spec L2 Pl
open PySem.W (EachIs)
def C_news : Con := fun os post => ∃ (ls : List Str) (d : Pl.D) (sp le : Int), os = [.sh (.list (ls.map .str)), .sh d] ∧ (d = sieveD sp le ∨ (d = .none ∧ sp = 3 ∧ le = 2)) ∧ sp ≤ 60 ∧ ls.length ≤ 130 ∧ (∀ z ∈ ls, IsLn 12 z) ∧ post (.fl ((newsN sp le ls).map natD)) os
theorem h_news : ∀ os post, C_news os post → os.length = 2 ∧ r_news C_gathered C_fits (dEnds [] os post) (start0 N_news.length os) := by
  rintro os post ⟨ls, d, sp, le, rfl, hd, hsp, hl, hz, k⟩
  refine ⟨rfl, ?_⟩
  have hvd : vw d = d := by rcases hd with rfl | ⟨rfl, _⟩ <;> rfl
  refine zSeq_in ?_
  show zSeq (r_news_2 C_gathered C_fits) _ _ [some (.sh (.list (ls.map .str))), some (.sh d), some (.fl []), none, none, none]
  refine zSeq_in ?_
  refine zFor_of (ds := enumD 0 (ls.map Pl.D.str)) (ρ1 := [some (.sh (.list (ls.map .str))), some (.sh d), some (.fl []), none, none, none]) (fun K hK => hK) ?_
  rw [enum_strs]
  refine loop_ind (fun dr ρ => ∃ n a3 a4 a5, n ≤ ls.length ∧ dr = (List.range' n (ls.length - n)).map (fun i => Pl.D.tuple [natD i, .str (ls.getD i "")]) ∧ ρ = [some (.sh (.list (ls.map .str))), some (.sh d), some (.fl (((List.range n).filter (isNews sp le ls)).map natD)), a3, a4, a5]) ?_ ?_ _ _ ⟨0, none, none, none, Nat.zero_le _, by rw [List.range_eq_range']; rfl, rfl⟩
  · rintro ρ ⟨n, a3, a4, a5, e1, e2, rfl⟩
    have e : ls.length - n = 0 := by
      have := congrArg List.length e2
      rw [List.length_map, List.length_range'] at this
      exact this.symm
    have e : n = ls.length := by omega
    subst e
    exact k
  · rintro dd dr ρ R ⟨n, a3, a4, a5, e1, e2, rfl⟩ hR
    have hn : n < ls.length := by
      have := congrArg List.length e2
      rw [List.length_map, List.length_range', List.length_cons] at this
      omega
    have e3 : ls.length - n = (ls.length - (n + 1)) + 1 := by omega
    rw [e3, List.range'_succ, List.map_cons, List.cons.injEq] at e2
    obtain ⟨rfl, rfl⟩ := e2
    have hzn := hz _ (getD_in hn)
    have zl : (ls.getD n "").length ≤ 100000 := by have := hzn.len; omega
    have fin : ∀ a5, R [some (.sh (.list (ls.map .str))), some (.sh d), some (.fl (((List.range (n + 1)).filter (isNews sp le ls)).map natD)), some (.sh (natD n)), some (.sh (.str (ls.getD n ""))), a5] := fun a5 => hR _ ⟨n + 1, _, _, _, hn, rfl, rfl⟩
    rw [newsN_step] at fin
    have hll : (((List.range n).filter (isNews sp le ls)).map natD).length < sizeLine := by
      rw [List.length_map]
      have := List.length_filter_le (isNews sp le ls) (List.range n)
      rw [List.length_range] at this
      exact small (by omega)
    have hzt : ∀ z ∈ ls.take n, IsLn 12 z := fun z h => hz z (mem_take h)
    unfold isNews at fin
    conv => whnf
    rw [show cutD (ls.map Pl.D.str) none (some (n : Int)) = (ls.take n).map .str from take_strs ls n]
    refine ⟨ls.take n, d, sp, le, by rw [hvd]; rfl, hd, hsp, by rw [List.length_take]; omega, hzt, ?_⟩
    have hgk := gat_ok (sp := sp) (le := le) hzt
    have hgl : (gat sp le (ls.take n)).length ≤ sizeLine := by have := gat_len sp le (ls.take n) (by rw [List.length_take]; omega); exact Nat.le_of_lt (small (by omega))
    generalize gat sp le (ls.take n) = gs at hgk hgl fin
    conv => whnf
    refine ⟨by rw [List.length_map]; exact hgl, ?_⟩
    refine lc_mt id nwPat (fun p => some (.bool (fitsP p (ls.getD n "")))) (fun _ => True) [some (.sh (.list (ls.map .str))), some (.sh d), some (.fl (((List.range n).filter fun i => !((gat sp le (ls.take i)).any fun p => fitsP p (ls.getD i ""))).map natD)), some (.sh (natD n)), some (.sh (.str (ls.getD n ""))), a5] ?_ _ gs _ (by rw [List.map_id]) (fun _ _ => trivial) ?_
    · rintro d2 p hd2 _ R2 acc hR2
      have hd2 : d2 = nwPat p := hd2
      subst hd2
      conv => whnf
      refine ⟨p, ls.getD n "", rfl, zl, ?_⟩
      exact hR2
    rw [fm_some, List.nil_append]
    conv => whnf
    rw [all_bools]
    conv => whnf
    rw [any_id]
    cases hb : gs.any fun p => fitsP p (ls.getD n "") with
    | true =>
      rw [hb] at fin
      have fin := fin a5
      rw [if_neg (by decide), List.append_nil] at fin
      exact fin
    | false =>
      rw [hb] at fin
      have fin := fin a5
      rw [show (if (!false) = true then [n] else ([] : List Nat)) = [n] from rfl, List.map_append] at fin
      conv => whnf
      exact ⟨hll, fin⟩
theorem mem_news {sp le : Int} {ls : List Str} {n : Nat} (h : n < ls.length) : (n ∈ newsN sp le ls) ↔ isNews sp le ls n = true := by
  unfold newsN
  rw [List.mem_filter, List.mem_range]
  exact ⟨fun h => h.2, fun q => ⟨h, q⟩⟩
end Tx
namespace Tx
open PySem PySem.Spec L2 Pl
/-! lines in order, by triples -/
def itT (z : Str) : Pl.D := .tuple [.int (Txt.split z " ").length, .nl ((Txt.split z " ").map wplD), .str z]
abbrev LK3 := PySem.W.T3 Int (List (Int × Str)) Str
def lk3 (z : Str) : LK3 := ⟨(Txt.split z " ").length, (Txt.split z " ").map fun w => ((w.length : Int), w), z⟩
theorem er_itT (z : Str) : er (itT z) = PySem.W.Datum.toD (lk3 z) := by
  show PyData.tuple [.int (Txt.split z " ").length, er (.nl ((Txt.split z " ").map wplD)), .str z] = _
  rw [er_map er_wpl]; rfl
theorem er_itTs (ls : List Str) : (ls.map itT).map er = (ls.map lk3).map PySem.W.Datum.toD := by
  rw [List.map_map, List.map_map]
  exact List.map_congr_left fun z _ => er_itT z
open PySem.W in
theorem lt_triple {α β γ : Type} [DecidableEq α] [DatumOrd α] [DecidableEq β] [DatumOrd β] [DecidableEq γ] [DatumOrd γ] (a a' : α) (b b' : β) (c c' : γ) : DatumOrd.lt ((a, b), c) ((a', b'), c') = DatumOrd.lt (⟨a, b, c⟩ : T3 α β γ) ⟨a', b', c'⟩ := by
  show (if (a, b) = (a', b') then DatumOrd.lt c c' else if a = a' then DatumOrd.lt b b' else DatumOrd.lt a a') = if a = a' then (if b = b' then DatumOrd.lt c c' else DatumOrd.lt b b') else DatumOrd.lt a a'
  by_cases h1 : a = a'
  · subst h1
    have h1 : a = a := rfl
    by_cases h2 : b = b'
    · subst h2
      rw [if_pos rfl, if_pos rfl, if_pos rfl]
    · rw [if_pos h1, if_neg h2, if_neg fun e => h2 (congrArg Prod.snd e), if_pos h1]
  · rw [if_neg h1, if_neg fun e => h1 (congrArg Prod.fst e), if_neg h1]
open PySem.W in
theorem sortT (ls : List Str) : (ls.map itT).mergeSort (dataLe false er) = (lnOrder ls).map itT := by
  refine (sort_maps itT fun p _ q _ => ?_).symm
  show (!llt q p) = !dataLt (er (itT q)) (er (itT p))
  rw [er_itT, er_itT, DatumOrd.lt_eq]
  congr 1
  exact lt_triple (α := Int) (β := List (Int × Str)) (γ := Str) _ _ _ _ _ _
open PySem.W in
theorem sortT_ok (ls : List Str) : AllAlike ((ls.map itT).map er) ∧ Sortable ((ls.map itT).map er) ∧ PyData.depthAll ((ls.map itT).map er) ≤ 64 := by
  rw [er_itTs]
  exact ⟨AllAlike.of fun _ _ => DatumOrd.alike _ _, Sortable.tuples fun p => ⟨_, _, rfl⟩, Nat.le_trans (depthAll_map _) (by decide)⟩
theorem eqv_bool (b c : Bool) : (er (.bool b)).eqv (er (.bool c)) = decide (b = c) := by cases b <;> cases c <;> rfl
end Tx
/-! is_line, is_part, is_pattern, fillings -/
namespace Tx
open PySem PySem.Spec L2 Pl
def C_isLine : Con := fun os post => ∃ z : Str, os = [.sh (.str z)] ∧ IsLn 12 z ∧ post (.sh (.bool true)) os
theorem h_isLine : ∀ os post, C_isLine os post → os.length = 1 ∧ r_is_line C_isWord C_words (dEnds [] os post) (start0 N_is_line.length os) := by
  rintro os post ⟨z, rfl, hz, k⟩
  refine ⟨rfl, ?_⟩
  have zl := hz.len
  obtain ⟨w1, w2, w3, _⟩ := hz.row
  conv => whnf
  refine ⟨z, rfl, by omega, ?_⟩
  generalize Txt.split z " " = ws at w1 w2 w3
  have h12 : decide (((ws.map Pl.D.str).length : Int) ≤ 12) = true := by rw [List.length_map]; exact decide_eq_true (by omega)
  conv => whnf
  rw [h12]
  conv => whnf
  refine ⟨by rw [List.length_map]; exact Nat.le_of_lt (small (by omega)), ?_⟩
  refine lc_mt id Pl.D.str (fun w => some (.bool true)) (fun w => IsWd w) [some (.sh (.str z)), some (.sh (.nl (ws.map .str))), none] ?_ _ ws _ (by rw [List.map_id]) w3 ?_
  · rintro d w hd hw R acc hR
    have hd : d = .str w := hd
    subst hd
    conv => whnf
    refine ⟨w, rfl, Nat.le_of_lt (small (by have := hw.2.1; omega)), ?_⟩
    rw [isWd_of hw]
    exact hR
  rw [fm_some, List.nil_append]
  conv => whnf
  rw [all_bools (fun _ => true)]
  conv => whnf
  rw [all_id, show ws.all (fun _ => true) = true from List.all_eq_true.mpr fun _ _ => rfl]
  exact k
def C_isPart : Con := fun os post => ∃ x : Pt, os = [.sh (enP x)] ∧ OkPt x ∧ post (.sh (.bool true)) os
theorem h_isPart : ∀ os post, C_isPart os post → os.length = 1 ∧ r_is_part C_isWord (dEnds [] os post) (start0 N_is_part.length os) := by
  rintro os post ⟨x, rfl, hx, k⟩
  refine ⟨rfl, ?_⟩
  cases x with
  | w s =>
    have hs : IsWd s := hx
    conv => whnf
    refine ⟨dR (d_int _), ?_⟩
    conv => whnf
    refine ⟨dR (Nat.zero_le _), ?_⟩
    conv => whnf
    refine ⟨s, rfl, Nat.le_of_lt (small (by have := hs.2.1; omega)), ?_⟩
    rw [isWd_of hs]
    exact k
  | h j =>
    conv => whnf
    refine ⟨dR (d_int _), ?_⟩
    conv => whnf
    refine ⟨dR (Nat.zero_le _), ?_⟩
    conv => whnf
    refine ⟨dR (Nat.zero_le _), ?_⟩
    cases j
    all_goals
      conv => whnf
      refine ⟨Nat.le_trans (Nat.min_le_right _ _) (Nat.zero_le _), ?_⟩
      exact k
def C_isPattern : Con := fun os post => ∃ p : Pat, os = [.sh (enPat p)] ∧ (∀ x ∈ p, OkPt x) ∧ 1 ≤ p.length ∧ p.length ≤ 12 ∧ post (.sh (.bool true)) os
theorem h_isPattern : ∀ os post, C_isPattern os post → os.length = 1 ∧ r_is_pattern C_isPart (dEnds [] os post) (start0 N_is_pattern.length os) := by
  rintro os post ⟨p, rfl, hp, h1, h2, k⟩
  refine ⟨rfl, ?_⟩
  have g1 : decide ((1 : Int) ≤ ((p.map enP).length : Int)) = true := by rw [List.length_map]; exact decide_eq_true (by omega)
  have g2 : decide (((p.map enP).length : Int) ≤ 12) = true := by rw [List.length_map]; exact decide_eq_true (by omega)
  conv => whnf
  rw [g1]
  conv => whnf
  rw [g2]
  conv => whnf
  refine ⟨by rw [List.length_map]; exact Nat.le_of_lt (small (by omega)), ?_⟩
  refine lc_mt id enP (fun w => some (.bool true)) (fun x => OkPt x) [some (.sh (enPat p)), none] ?_ _ p _ (by rw [List.map_id]) hp ?_
  · rintro d x hd hx R acc hR
    have hd : d = enP x := hd
    subst hd
    conv => whnf
    refine ⟨x, by cases x <;> rfl, hx, ?_⟩
    exact hR
  rw [fm_some, List.nil_append]
  conv => whnf
  rw [all_bools (fun _ => true)]
  conv => whnf
  rw [all_id, show p.all (fun _ => true) = true from List.all_eq_true.mpr fun _ _ => rfl]
  exact k
/-- the words at the holes -/
def fillW : Pat → List Str → List Str
  | .h _ :: p, w :: ws => w :: fillW p ws
  | .w _ :: p, _ :: ws => fillW p ws
  | _, _ => []
def pairD (q : Pt × Str) : Pl.D := .tuple [enP q.1, .str q.2]
theorem zipD_maps : ∀ (p : Pat) (ws : List Str), zipD (p.map enP) (ws.map Pl.D.str) = (p.zip ws).map pairD
  | [], _ => rfl
  | _ :: _, [] => rfl
  | x :: p, w :: ws => by
    show Pl.D.tuple [enP x, .str w] :: zipD (p.map enP) (ws.map .str) = _
    rw [zipD_maps p ws]; rfl
def holeW (q : Pt × Str) : Option Pl.D := match q.1 with
  | .h _ => some (.str q.2)
  | .w _ => none
theorem fillW_zip : ∀ (p : Pat) (ws : List Str), (p.zip ws).filterMap holeW = (fillW p ws).map Pl.D.str
  | [], _ => rfl
  | .w _ :: _, [] => rfl
  | .h _ :: _, [] => rfl
  | .w _ :: p, w :: ws => by
    show (p.zip ws).filterMap holeW = (fillW p ws).map Pl.D.str
    exact fillW_zip p ws
  | .h _ :: p, w :: ws => by
    show Pl.D.str w :: (p.zip ws).filterMap holeW = .str w :: (fillW p ws).map Pl.D.str
    rw [fillW_zip p ws]
def C_fillings : Con := fun os post => ∃ (p : Pat) (z : Str), os = [.sh (enPat p), .sh (.str z)] ∧ IsLn 12 z ∧ fitsP p z = true ∧ post (.fl ((fillW p (Txt.split z " ")).map .str)) os
theorem h_fillings : ∀ os post, C_fillings os post → os.length = 2 ∧ r_fillings C_words C_fits (dEnds [] os post) (start0 N_fillings.length os) := by
  rintro os post ⟨p, z, rfl, hz, hf, k⟩
  refine ⟨rfl, ?_⟩
  have zl := hz.len
  obtain ⟨w1, w2, w3, _⟩ := hz.row
  conv => whnf
  refine ⟨p, z, rfl, by omega, ?_⟩
  rw [hf]
  conv => whnf
  refine ⟨z, rfl, by omega, ?_⟩
  have hlen : (Txt.split z " ").length = p.length := by unfold fitsP at hf; exact (fitsWs_len hf).symm
  generalize Txt.split z " " = ws at w1 w2 w3 k hlen
  conv => whnf
  rw [zipD_maps]
  rw [← fillW_zip] at k
  refine ⟨by rw [List.length_map, List.length_zip]; exact Nat.le_of_lt (small (by omega)), ?_⟩
  refine lc_mt id pairD holeW (fun _ => True) [some (.sh (enPat p)), some (.sh (.str z)), none, none] ?_ _ (p.zip ws) _ (by rw [List.map_id]) (fun _ _ => trivial) ?_
  · rintro d ⟨x, w⟩ hd _ R acc hR
    have hd : d = pairD (x, w) := hd
    subst hd
    cases x with
    | w s =>
      rw [show (holeW (.w s, w)).toList = [] from rfl, List.append_nil] at hR
      conv => whnf
      refine ⟨dR (Nat.zero_le _), ?_⟩
      exact hR
    | h j =>
      conv => whnf
      refine ⟨dR (Nat.zero_le _), ?_⟩
      exact hR
  rw [List.nil_append]
  exact k
end Tx
/-! show_part, show_pattern, read_part, read_pattern: what is shown is read back -/
namespace Tx
open PySem PySem.Spec L2 Pl
theorem tl_to (z : Str) (k : Nat) : TL.tl (cutS z none (some (k : Int))) = (TL.tl z).take k := by
  show ((TL.tl z).drop (HT.sIx z.length 0 none)).take (HT.sIx z.length z.length (some (k : Int)) - HT.sIx z.length 0 none) = _
  rw [HT.sIx_none, HT.sIx_nat, List.drop_zero, Nat.sub_zero]
  by_cases h : k ≤ z.length
  · rw [Nat.min_eq_left h]
  · have hz : z.length = (TL.tl z).length := TL.len_tl z
    rw [Nat.min_eq_right (by omega), List.take_of_length_le (by omega), List.take_of_length_le (by omega)]
theorem tl_from (z : Str) (k : Nat) : TL.tl (cutS z (some (k : Int)) none) = (TL.tl z).drop k := by
  show ((TL.tl z).drop (HT.sIx z.length 0 (some (k : Int)))).take (HT.sIx z.length z.length none - HT.sIx z.length 0 (some (k : Int))) = _
  rw [HT.sIx_none, HT.sIx_nat]
  have hz : z.length = (TL.tl z).length := TL.len_tl z
  by_cases h : k ≤ z.length
  · rw [Nat.min_eq_left h, List.take_of_length_le (by rw [List.length_drop]; omega)]
  · rw [Nat.min_eq_right (by omega), List.drop_of_length_le (by omega), List.drop_of_length_le (by omega), List.take_nil]
theorem tl_mid (z : Str) (a b : Nat) (hb : b ≤ z.length) (h : a ≤ b) : TL.tl (cutS z (some (a : Int)) (some (b : Int))) = ((TL.tl z).drop a).take (b - a) := by
  show ((TL.tl z).drop (HT.sIx z.length 0 (some (a : Int)))).take (HT.sIx z.length z.length (some (b : Int)) - HT.sIx z.length 0 (some (a : Int))) = _
  rw [HT.sIx_nat, HT.sIx_nat, Nat.min_eq_left hb, Nat.min_eq_left (by omega)]
/-- begins with < or = -/
def markOf (s : Str) : Bool := match TL.tl s with
  | c :: _ => decide (c ∈ [60, 61])
  | [] => false
def showPt : Pt → Str
  | .h k => ("<" ++ k.str) ++ ">"
  | .w s => if markOf s = true then "=" ++ s else s
theorem marks_tl : ("<=" : Str).cps.toList = [60, 61] := by decide +kernel
theorem eq_tl : TL.tl ("=" : Str) = [61] := by decide +kernel
theorem lt_tl : TL.tl ("<" : Str) = [60] := by decide +kernel
def C_showPt : Con := fun os post => ∃ x : Pt, os = [.sh (enP x)] ∧ OkPt x ∧ post (.sh (.str (showPt x))) os
theorem h_showPt : ∀ os post, C_showPt os post → os.length = 1 ∧ r_show_part (dEnds [] os post) (start0 N_show_part.length os) := by
  rintro os post ⟨x, rfl, hx, k⟩
  refine ⟨rfl, ?_⟩
  cases x with
  | w s =>
    have hs : IsWd s := hx
    have hsl : s.length ≤ sizeLine := Nat.le_of_lt (small (by have := hs.2.1; omega))
    cases hc : s.cps.toList with
    | nil => exact absurd hs.1 (by rw [TL.len_tl, TL.tl, hc]; decide)
    | cons c r =>
      have km : showPt (.w s) = if decide (c ∈ [60, 61]) = true then "=" ++ s else s := by
        show (if markOf s = true then _ else _) = _
        unfold markOf
        rw [show TL.tl s = c :: r from hc]
      rw [km] at k
      conv => whnf
      refine ⟨dR (Nat.zero_le _), ?_⟩
      conv => whnf
      refine ⟨hsl, ?_⟩
      rw [hc, at_head]
      conv => whnf
      refine ⟨c, rfl, ?_⟩
      rw [marks_tl]
      cases hm : decide (c ∈ [60, 61]) with
      | true =>
        rw [hm, if_pos rfl] at k
        conv => whnf
        have e1 : ("=" : Str).length = 1 := by decide +kernel
        exact ⟨Nat.le_of_lt (small (by have := hs.2.1; rw [e1]; omega)), k⟩
      | false =>
        rw [hm, if_neg (by decide)] at k
        exact k
  | h j =>
    cases j
    all_goals
      conv => whnf
      refine ⟨dR (Nat.zero_le _), ?_⟩
      conv => whnf
      refine ⟨Nat.le_of_lt (small (by decide +kernel)), ?_⟩
      conv => whnf
      exact ⟨Nat.le_of_lt (small (by decide +kernel)), k⟩
def C_showPat : Con := fun os post => ∃ p : Pat, os = [.sh (enPat p)] ∧ OkPat p ∧ post (.sh (.str (Txt.join " " (p.map showPt)))) os
theorem showPt_len {x : Pt} (h : OkPt x) : (showPt x).length ≤ 1001 := by
  cases x with
  | w s =>
    have hs : IsWd s := h
    show (if markOf s = true then "=" ++ s else s).length ≤ 1001
    by_cases e : markOf s = true
    · rw [if_pos e, TL.len_tl, TL.tl_append, List.length_append, eq_tl, ← TL.len_tl]
      have := hs.2.1
      show 1 + _ ≤ _
      omega
    · rw [if_neg e]
      have := hs.2.1; omega
  | h j => cases j <;> decide +kernel
theorem h_showPat : ∀ os post, C_showPat os post → os.length = 1 ∧ r_show_pattern C_showPt (dEnds [] os post) (start0 N_show_pattern.length os) := by
  rintro os post ⟨p, rfl, hp, k⟩
  refine ⟨rfl, ?_⟩
  have hpl := hp.1
  conv => whnf
  refine ⟨by rw [List.length_map]; exact Nat.le_of_lt (small (by omega)), ?_⟩
  refine lc_mt id enP (fun x => some (.str (showPt x))) (fun x => OkPt x) [some (.sh (enPat p)), none] ?_ _ p _ (by rw [List.map_id]) hp.2 ?_
  · rintro d x hd hx R acc hR
    have hd : d = enP x := hd
    subst hd
    conv => whnf
    refine ⟨x, by cases x <;> rfl, hx, ?_⟩
    exact hR
  rw [fm_some, List.nil_append]
  have e : p.map (fun x => Pl.D.str (showPt x)) = (p.map showPt).map .str := by rw [List.map_map]; rfl
  rw [e]
  have hs := sum_le 1001 (p.map showPt) fun w hw => by
    obtain ⟨x, hx, rfl⟩ := List.mem_map.mp hw
    exact showPt_len (hp.2 x hx)
  rw [List.length_map] at hs
  have hl : (p.map showPt).length = p.length := List.length_map ..
  generalize p.map showPt = ts at hs hl k
  conv => whnf
  rw [strsOf_map]
  conv => whnf
  refine ⟨?_, k⟩
  have h3 : (" " : Str).length = 1 := by decide
  show (ts.map (·.length)).sum + ts.length * (" " : Str).length ≤ 16777216
  rw [h3]
  omega
def C_readPt : Con := fun os post => ∃ x : Pt, os = [.sh (.str (showPt x))] ∧ OkPt x ∧ post (.sh (enP x)) os
theorem not_hole {t k : Str} (h : ∀ c r, TL.tl t = c :: r → c ≠ 60) : t ≠ ("<" ++ k) ++ ">" := fun e => by
  refine h 60 (TL.tl k ++ TL.tl ">") ?_ rfl
  rw [e, TL.tl_append, TL.tl_append, lt_tl]; rfl
theorem h_readPt : ∀ os post, C_readPt os post → os.length = 1 ∧ r_read_part (dEnds [] os post) (start0 N_read_part.length os) := by
  rintro os post ⟨x, rfl, hx, k⟩
  refine ⟨rfl, ?_⟩
  have el : ∀ j : Hk, ("<" : Str).length + j.str.length ≤ sizeLine ∧ (("<" : Str) ++ j.str).length + (">" : Str).length ≤ sizeLine := fun j => by cases j <;> exact ⟨Nat.le_of_lt (small (by decide +kernel)), Nat.le_of_lt (small (by decide +kernel))⟩
  have lp : ∀ (R : Prop) (t : Str) (D : PEnds), t.length ≤ 1001 → (∀ j : Hk, t = ("<" ++ j.str) ++ ">" → D.rt (.sh (enP (.h j))) [some (.sh (.str t)), some (.sh (.str j.str))]) → ((∀ j : Hk, t ≠ ("<" ++ j.str) ++ ">") → ∀ a1, D.nx [some (.sh (.str t)), a1]) → r_read_part_1 D [some (.sh (.str t)), none] := by
    intro _ t D _ h1 h2
    refine zFor_of (ds := [.str "number", .str "name", .str "any"]) (ρ1 := [some (.sh (.str t)), none]) (fun K hK => hK) ?_
    refine loop_ind (fun dr ρ => ∃ (js : List Hk) (a1 : Option O), dr = js.map (fun j => Pl.D.str j.str) ∧ (∀ j : Hk, j ∉ js → t ≠ ("<" ++ j.str) ++ ">") ∧ ρ = [some (.sh (.str t)), a1]) ?_ ?_ _ _ ⟨[.number, .name, .any], none, rfl, fun j hj => absurd (by cases j <;> simp) hj, rfl⟩
    · rintro ρ ⟨js, a1, e1, e2, rfl⟩
      have e : js = [] := List.map_eq_nil_iff.mp e1.symm
      subst e
      exact h2 (fun j => e2 j (by simp)) a1
    · rintro d dr ρ R ⟨js, a1, e1, e2, rfl⟩ hR
      cases js with
      | nil => cases e1
      | cons j js =>
        rw [List.map_cons, List.cons.injEq] at e1
        obtain ⟨rfl, rfl⟩ := e1
        obtain ⟨l1, l2⟩ := el j
        conv => whnf
        refine ⟨l1, ?_⟩
        conv => whnf
        refine ⟨l2, ?_⟩
        conv => whnf
        refine ⟨dR (Nat.zero_le _), ?_⟩
        conv => whnf
        rw [er_vw, er_vw, eqv_str]
        by_cases e : t = ("<" ++ j.str) ++ ">"
        · rw [decide_eq_true e]
          exact h1 j e
        · rw [decide_eq_false e]
          refine hR _ ⟨js, _, rfl, fun i hi => ?_, rfl⟩
          by_cases ij : i = j
          · rw [ij]; exact e
          · exact e2 i fun h => (List.mem_cons.mp h).elim ij hi
  have hl := showPt_len hx
  cases x with
  | h j =>
    refine zSeq_in (lp True _ _ hl (fun i e => ?_) fun h => absurd rfl (h j))
    have ij : i = j := by
      revert e
      cases i <;> cases j <;> first | exact fun _ => rfl | exact fun e => absurd e (by decide +kernel)
    subst ij
    exact k
  | w s =>
    have hs : IsWd s := hx
    cases hc : TL.tl s with
    | nil => exact absurd hs.1 (by rw [TL.len_tl, hc]; decide)
    | cons c r =>
      have km : showPt (.w s) = if decide (c ∈ [60, 61]) = true then "=" ++ s else s := by
        show (if markOf s = true then _ else _) = _
        unfold markOf
        rw [hc]
      rw [km] at hl k ⊢
      cases hm : decide (c ∈ [60, 61]) with
      | true =>
        rw [hm] at hl k
        rw [if_pos rfl] at hl k ⊢
        have ht : TL.tl ("=" ++ s) = 61 :: c :: r := by rw [TL.tl_append, eq_tl, hc]; rfl
        have e1 : cutS ("=" ++ s) none (some 1) = "=" := TL.ext_tl ((tl_to ("=" ++ s) 1).trans (by rw [ht, eq_tl]; rfl))
        have e2 : cutS ("=" ++ s) (some 1) (some 2) ≠ "" := fun e => by
          have h := tl_mid ("=" ++ s) 1 2 (by rw [TL.len_tl, ht]; simp) (by omega)
          rw [show cutS ("=" ++ s) (some ((1 : Nat) : Int)) (some ((2 : Nat) : Int)) = "" from e, ht] at h
          cases h
        have e3 : cutS ("=" ++ s) (some 1) none = s := TL.ext_tl ((tl_from ("=" ++ s) 1).trans (by rw [ht, hc]; rfl))
        have e4 : atI ("=" ++ s).cps.toList 1 = some c := by
          rw [show ("=" ++ s).cps.toList = 61 :: c :: r from ht]
          unfold atI
          rw [ixN_in (by omega) (by rw [List.length_cons, List.length_cons]; omega)]; rfl
        generalize "=" ++ s = t at hl ht e1 e2 e3 e4 k
        refine zSeq_in (lp True _ _ hl (fun i e => absurd e (not_hole fun c r h => by rw [ht] at h; cases h; decide)) fun _ a1 => ?_)
        have tl : t.length ≤ sizeLine := Nat.le_of_lt (small (by omega))
        conv => whnf
        refine ⟨tl, ?_⟩
        conv => whnf
        rw [e1]
        refine ⟨dR (Nat.zero_le _), ?_⟩
        conv => whnf
        refine ⟨tl, ?_⟩
        conv => whnf
        refine ⟨dR (Nat.zero_le _), ?_⟩
        conv => whnf
        rw [er_vw, er_vw, eqv_str, decide_eq_false e2]
        conv => whnf
        refine ⟨tl, ?_⟩
        rw [e4]
        conv => whnf
        refine ⟨c, rfl, ?_⟩
        rw [marks_tl, hm]
        conv => whnf
        refine ⟨tl, ?_⟩
        rw [e3]
        exact k
      | false =>
        rw [hm] at hl k
        rw [if_neg Bool.false_ne_true] at hl k ⊢
        have hn : ¬ c ∈ [60, 61] := of_decide_eq_false hm
        have e1 : cutS s none (some 1) ≠ "=" := fun e => by
          have h := tl_to s 1
          rw [show cutS s none (some ((1 : Nat) : Int)) = "=" from e, hc, eq_tl] at h
          exact hn (by cases h; decide)
        have e4 : atI s.cps.toList 0 = some c := by rw [show s.cps.toList = c :: r from hc, at_head]
        have e5 : s ≠ "" := fun e => by rw [e] at hc; cases hc
        refine zSeq_in (lp True _ _ hl (fun i e => absurd e (not_hole fun c' r' h => by rw [hc] at h; cases h; exact fun e => hn (by rw [e]; decide))) fun _ a1 => ?_)
        have tl : s.length ≤ sizeLine := Nat.le_of_lt (small (by omega))
        conv => whnf
        refine ⟨tl, ?_⟩
        conv => whnf
        refine ⟨dR (Nat.zero_le _), ?_⟩
        conv => whnf
        rw [er_vw, er_vw, eqv_str, decide_eq_false e1]
        conv => whnf
        refine ⟨dR (Nat.zero_le _), ?_⟩
        conv => whnf
        rw [er_vw, er_vw, eqv_str, decide_eq_false e5]
        conv => whnf
        refine ⟨tl, ?_⟩
        rw [e4]
        conv => whnf
        refine ⟨c, rfl, ?_⟩
        rw [marks_tl, hm]
        exact k
def C_readPat : Con := fun os post => ∃ p : Pat, os = [.sh (.str (Txt.join " " (p.map showPt)))] ∧ OkPat p ∧ 1 ≤ p.length ∧ p.length ≤ 12 ∧ post (.sh (.nl (p.map enP))) os
theorem showPt_blank {x : Pt} (h : OkPt x) : 32 ∉ (showPt x).cps.toList := by
  cases x with
  | w s =>
    have hs : IsWd s := h
    have hb := wd_blank hs
    show 32 ∉ TL.tl (if markOf s = true then "=" ++ s else s)
    by_cases e : markOf s = true
    · rw [if_pos e, TL.tl_append, eq_tl]
      intro hm
      rcases List.mem_append.mp hm with hm | hm
      · revert hm; decide
      · exact hb hm
    · rw [if_neg e]; exact hb
  | h j => cases j <;> decide +kernel
theorem h_readPat : ∀ os post, C_readPat os post → os.length = 1 ∧ r_read_pattern C_isPattern C_readPt (dEnds [] os post) (start0 N_read_pattern.length os) := by
  rintro os post ⟨p, rfl, hp, p1, p2, k⟩
  refine ⟨rfl, ?_⟩
  have hne : p.map showPt ≠ [] := fun e => by
    have := congrArg List.length e
    rw [List.length_map, List.length_nil] at this
    omega
  have hsp : Txt.split (Txt.join " " (p.map showPt)) " " = p.map showPt := split_ln hne fun w hw => by
    obtain ⟨x, hx, rfl⟩ := List.mem_map.mp hw
    exact showPt_blank (hp.2 x hx)
  have hjl : (Txt.join " " (p.map showPt)).length ≤ 100000 := by
    rw [TL.join_eq]
    have h1 := StrLaws.join_length_le " " (p.map showPt)
    have h2 := sum_le 1001 (p.map showPt) fun w hw => by
      obtain ⟨x, hx, rfl⟩ := List.mem_map.mp hw
      exact showPt_len (hp.2 x hx)
    have h3 : (" " : Str).length = 1 := by decide
    rw [h3] at h1
    rw [List.length_map] at h1 h2
    omega
  generalize Txt.join " " (p.map showPt) = t at hsp hjl k
  conv => whnf
  refine ⟨by decide, ?_⟩
  conv => whnf
  refine ⟨by have := sizeLine_eq; omega, ?_⟩
  rw [hsp]
  conv => whnf
  refine ⟨by rw [List.length_map, List.length_map]; exact Nat.le_of_lt (small (by omega)), ?_⟩
  refine lc_mt id (fun x => Pl.D.str (showPt x)) (fun x => some (enP x)) (fun x => OkPt x) [some (.sh (.str t)), none, none] ?_ _ p _ (by rw [List.map_id, List.map_map]; rfl) hp.2 ?_
  · rintro d x hd hx R acc hR
    have hd : d = .str (showPt x) := hd
    subst hd
    conv => whnf
    refine ⟨x, rfl, hx, ?_⟩
    exact hR
  rw [fm_some, List.nil_append]
  conv => whnf
  refine ⟨p, rfl, hp.2, p1, p2, ?_⟩
  exact k
end Tx
/-! two lines in order -/
namespace Tx
open PySem PySem.Spec L2 Pl
open PySem.W in
theorem listLt_mid {α : Type} [DecidableEq α] [DatumOrd α] {x y : α} (h : x ≠ y) (B : List α) : ∀ A : List α, listLt (A ++ x :: B) (A ++ y :: B) = DatumOrd.lt x y
  | [] => by
    show listLt (x :: B) (y :: B) = _
    rw [listLt, if_neg h]
  | a :: A => by
    show listLt (a :: (A ++ x :: B)) (a :: (A ++ y :: B)) = _
    rw [listLt, if_pos rfl, listLt_mid h B A]
theorem order_two (a b : Str) : lnOrder [a, b] = if llt b a = true then [b, a] else [a, b] := by
  unfold lnOrder
  have : [a, b].mergeSort lle = if lle a b then [a, b] else [b, a] := by
    simp [List.mergeSort, List.merge, List.MergeSort.Internal.splitInTwo]
  rw [this]
  unfold lle
  cases llt b a <;> rfl
open PySem.W in
theorem llt_two {A B : List Str} {a b z1 z2 : Str} (s1 : Txt.split z1 " " = A ++ a :: B) (s2 : Txt.split z2 " " = A ++ b :: B) (h : b ≠ a) : llt z2 z1 = dataLt (er (wplD b)) (er (wplD a)) := by
  rw [er_wpl, er_wpl, DatumOrd.lt_eq]
  have hk : ((b.length : Int), b) ≠ ((a.length : Int), a) := fun e => h (congrArg Prod.snd e)
  show (if lk z2 = lk z1 then DatumOrd.lt z2 z1 else DatumOrd.lt (lk z2) (lk z1)) = _
  have e1 : lk z1 = (((A ++ a :: B).length : Int), (A ++ a :: B).map fun w => ((w.length : Int), w)) := by unfold lk; rw [s1]
  have e2 : lk z2 = (((A ++ b :: B).length : Int), (A ++ b :: B).map fun w => ((w.length : Int), w)) := by unfold lk; rw [s2]
  have hl : ((A ++ b :: B).length : Int) = ((A ++ a :: B).length : Int) := by rw [List.length_append, List.length_append]; rfl
  have hm := listLt_mid hk (B.map fun w => ((w.length : Int), w)) (A.map fun w => ((w.length : Int), w))
  have hne : lk z2 ≠ lk z1 := fun e => by
    rw [e1, e2] at e
    have e := congrArg Prod.snd e
    simp only [List.map_append, List.map_cons] at e
    exact hk (List.cons.inj (List.append_cancel_left e)).1
  rw [if_neg hne, e1, e2]
  show (if ((A ++ b :: B).length : Int) = ((A ++ a :: B).length : Int) then listLt ((A ++ b :: B).map fun w => ((w.length : Int), w)) ((A ++ a :: B).map fun w => ((w.length : Int), w)) else _) = _
  rw [if_pos hl, List.map_append, List.map_append, List.map_cons, List.map_cons]
  exact hm
end Tx
namespace Tx
open PySem PySem.Spec L2 Pl
abbrev N__law_long : List Str := ["deck", "some", "many", "signs", "k"]
def r__law_long_5 (C__law_pick : Con) : TPS :=
  zRet (o2 pAdd (xE (eO (o2 pIx (xE (eO (oLst (sCons (xE (eC (.str ""))) (sCons (xE (eC (.str "-"))) (sNil)))))) (xE (eO (oN pInt (s1 (xE (eO (o2 pEq (xE (eO (oCall C__law_pick [] (sCons (xV 0) (sCons (xE (eC (.int 5))) (sNil)))))) (xE (eC (.int 0))))))))))))) (xE (eO (oM pJoin (eC (.str "")) (xV 3)))))
def r__law_long_4a_1 (C__law_pick : Con) : TPS :=
  zPut 3 (eO (o2 pIx (xE (eC (.str "a0-A<"))) (xE (eO (oCall C__law_pick [] (sCons (xV 0) (sCons (xE (eC (.int 5))) (sNil)))))))) (xE (eO (oCall C__law_pick [] (sCons (xV 0) (sCons (xE (eV 2)) (sNil))))))
def r__law_long_4 (C__law_pick : Con) : TPS :=
  zIf (bO (o2 pEq (xE (eO (oCall C__law_pick [] (sCons (xV 0) (sCons (xE (eC (.int 3))) (sNil)))))) (xE (eC (.int 0)))))
  (zSeq (r__law_long_4a_1 C__law_pick)
  (zNx))
  (zNx)
def r__law_long_3 (C__law_pick : Con) : TPS :=
  zSet 3 (oLc (iRg1 (xV 2)) (gNm 4) (tYes') (eO (o2 pIx (xV 1) (xE (eO (oCall C__law_pick [] (sCons (xV 0) (sCons (xE (eO (oN pLen (s1 (xV 1))))) (sNil)))))))) [4])
def r__law_long_2 (C__law_pick : Con) : TPS :=
  zSet 2 (o2 pIx (xE (eO (oLst (sCons (xE (eO (o2 pAdd (xE (eC (.int 1))) (xE (eO (oCall C__law_pick [] (sCons (xV 0) (sCons (xE (eC (.int 150))) (sNil))))))))) (sCons (xE (eC (.int 150))) (sCons (xE (eO (o2 pAdd (xE (eC (.int 1))) (xE (eO (oCall C__law_pick [] (sCons (xV 0) (sCons (xE (eC (.int 5))) (sNil))))))))) (sNil))))))) (xE (eO (oCall C__law_pick [] (sCons (xV 0) (sCons (xE (eC (.int 3))) (sNil)))))))
def r__law_long_1 (C__law_pick : Con) : TPS :=
  zSet 1 (o2 pIx (xE (eO (oLst (sCons (xE (eC (.str "0123456789"))) (sCons (xE (eC (.str "abcxyz"))) (sCons (xE (eC (.str "A.:/<=-"))) (sCons (xE (eC (.str "09az-"))) (sNil)))))))) (xE (eO (oCall C__law_pick [] (sCons (xV 0) (sCons (xE (eC (.int 4))) (sNil)))))))
def r__law_long (C__law_pick : Con) : TPS :=
  zSeq (r__law_long_1 C__law_pick)
  (zSeq (r__law_long_2 C__law_pick)
  (zSeq (r__law_long_3 C__law_pick)
  (zSeq (r__law_long_4 C__law_pick)
  (zSeq (r__law_long_5 C__law_pick)
  (zNx)))))
abbrev N__law_other : List Str := ["deck", "word", "at", "new", "kind"]
def r__law_other_4 (C__law_pick : Con) : TPS :=
  zRet (o2 pAdd (xE (eO (o2 pAdd (xE (eO (oSl (xV 1) (tP0) (tP1 (eV 2))))) (xV 3)))) (xE (eO (oSl (xV 1) (tP1 (eO (o2 pAdd (xV 2) (xE (eC (.int 1)))))) (tP0)))))
def r__law_other_3a_1a_1 (C__law_pick : Con) : TPS :=
  zSet 3 (o2 pIx (xV 4) (xE (eO (o2 pMod (xE (eO (o2 pAdd (xE (eO (oM pSIdx (eV 4) (xE (eO (o2 pIx (xV 1) (xV 2))))))) (xE (eC (.int 1)))))) (xE (eO (oN pLen (s1 (xV 4)))))))))
def r__law_other_3a_1 (C__law_pick : Con) : TPS :=
  zIf (bO (o2 (pIn false) (xE (eO (o2 pIx (xV 1) (xV 2)))) (xV 4)))
  (zSeq (r__law_other_3a_1a_1 C__law_pick)
  (zNx))
  (zNx)
def r__law_other_3f (C__law_pick : Con) : TPS :=
  zSeq (r__law_other_3a_1 C__law_pick)
  (zNx)
def r__law_other_3 (C__law_pick : Con) : TPS :=
  zFor (iTp (eO (oTup (sCons (xE (eC (.str "0123456789"))) (sCons (xE (eC (.str "abcdefghijklmnopqrstuvwxyz"))) (sNil)))))) (gNm 4)
  (r__law_other_3f C__law_pick)
def r__law_other_2 (C__law_pick : Con) : TPS :=
  zSet 3 (oE (eC (.str "z")))
def r__law_other_1 (C__law_pick : Con) : TPS :=
  zSet 2 (oCall C__law_pick [] (sCons (xV 0) (sCons (xE (eO (oN pLen (s1 (xV 1))))) (sNil))))
def r__law_other (C__law_pick : Con) : TPS :=
  zSeq (r__law_other_1 C__law_pick)
  (zSeq (r__law_other_2 C__law_pick)
  (zSeq (r__law_other_3 C__law_pick)
  (zSeq (r__law_other_4 C__law_pick)
  (zNx))))
abbrev N_law : List Str := ["script", "cell", "deck", "words", "line", "at", "others", "other", "plain", "second", "both", "kinds", "hole", "one", "its", "first", "k", "word"]
def r_law_2 (C_in_order : Con) (C_show_pattern : Con) (C_read_pattern : Con) (C_falls_under : Con) (C_fillings : Con) (C_filled : Con) (C_fits : Con) (C__law_kind : Con) (C_joined : Con) (C_is_line : Con) (C__law_other : Con) (C__law_pick : Con) (C_kind_of : Con) (C__law_long : Con) (C__law_deck : Con) : TPS :=
  zRet (oE (eC (.bool true)))
def r_law_1a_20a_1 (C_in_order : Con) (C_show_pattern : Con) (C_read_pattern : Con) (C_falls_under : Con) (C_fillings : Con) (C_filled : Con) (C_fits : Con) (C__law_kind : Con) (C_joined : Con) (C_is_line : Con) (C__law_other : Con) (C__law_pick : Con) (C_kind_of : Con) (C__law_long : Con) (C__law_deck : Con) : TPS :=
  zRet (oE (eC (.bool false)))
def r_law_1a_20 (C_in_order : Con) (C_show_pattern : Con) (C_read_pattern : Con) (C_falls_under : Con) (C_fillings : Con) (C_filled : Con) (C_fits : Con) (C__law_kind : Con) (C_joined : Con) (C_is_line : Con) (C__law_other : Con) (C__law_pick : Con) (C_kind_of : Con) (C__law_long : Con) (C__law_deck : Con) : TPS :=
  zIf (bO (o2 pNe (xE (eO (oCall C_in_order [] (sCons (xE (eO (oLst (sCons (xE (eV 4)) (sCons (xE (eV 7)) (sNil)))))) (sNil))))) (xE (eO (o2 pIx (xE (eO (oLst (sCons (xE (eO (oLst (sCons (xE (eV 4)) (sCons (xE (eV 7)) (sNil)))))) (sCons (xE (eO (oLst (sCons (xE (eV 7)) (sCons (xE (eV 4)) (sNil)))))) (sNil)))))) (xE (eO (oN pInt (s1 (xE (eO (o2 pLtD (xE (eO (o2 pIx (xV 15) (xE (eC (.int 1)))))) (xE (eO (o2 pIx (xV 15) (xE (eC (.int 0))))))))))))))))))
  (zSeq (r_law_1a_20a_1 C_in_order C_show_pattern C_read_pattern C_falls_under C_fillings C_filled C_fits C__law_kind C_joined C_is_line C__law_other C__law_pick C_kind_of C__law_long C__law_deck)
  (zNx))
  (zNx)
def r_law_1a_19 (C_in_order : Con) (C_show_pattern : Con) (C_read_pattern : Con) (C_falls_under : Con) (C_fillings : Con) (C_filled : Con) (C_fits : Con) (C__law_kind : Con) (C_joined : Con) (C_is_line : Con) (C__law_other : Con) (C__law_pick : Con) (C_kind_of : Con) (C__law_long : Con) (C__law_deck : Con) : TPS :=
  zSet 15 (oLst (sCons (xE (eO (oTup (sCons (xE (eO (oN pLen (s1 (xE (eO (o2 pIx (xV 3) (xV 5)))))))) (sCons (xE (eO (o2 pIx (xV 3) (xV 5)))) (sNil)))))) (sCons (xE (eO (oTup (sCons (xE (eO (oN pLen (s1 (xE (eO (o2 pIx (xV 6) (xV 5)))))))) (sCons (xE (eO (o2 pIx (xV 6) (xV 5)))) (sNil)))))) (sNil))))
def r_law_1a_18a_1 (C_in_order : Con) (C_show_pattern : Con) (C_read_pattern : Con) (C_falls_under : Con) (C_fillings : Con) (C_filled : Con) (C_fits : Con) (C__law_kind : Con) (C_joined : Con) (C_is_line : Con) (C__law_other : Con) (C__law_pick : Con) (C_kind_of : Con) (C__law_long : Con) (C__law_deck : Con) : TPS :=
  zRet (oE (eC (.bool false)))
def r_law_1a_18 (C_in_order : Con) (C_show_pattern : Con) (C_read_pattern : Con) (C_falls_under : Con) (C_fillings : Con) (C_filled : Con) (C_fits : Con) (C__law_kind : Con) (C_joined : Con) (C_is_line : Con) (C__law_other : Con) (C__law_pick : Con) (C_kind_of : Con) (C__law_long : Con) (C__law_deck : Con) : TPS :=
  zIf (tOr (bO (o2 pNe (xE (eO (oCall C_read_pattern [] (sCons (xE (eO (oCall C_show_pattern [] (sCons (xE (eV 10)) (sNil))))) (sNil))))) (xV 10))) (bO (o2 pNe (xE (eO (oCall C_read_pattern [] (sCons (xE (eO (oCall C_show_pattern [] (sCons (xE (eV 8)) (sNil))))) (sNil))))) (xV 8))))
  (zSeq (r_law_1a_18a_1 C_in_order C_show_pattern C_read_pattern C_falls_under C_fillings C_filled C_fits C__law_kind C_joined C_is_line C__law_other C__law_pick C_kind_of C__law_long C__law_deck)
  (zNx))
  (zNx)
def r_law_1a_17a_2a_1 (C_in_order : Con) (C_show_pattern : Con) (C_read_pattern : Con) (C_falls_under : Con) (C_fillings : Con) (C_filled : Con) (C_fits : Con) (C__law_kind : Con) (C_joined : Con) (C_is_line : Con) (C__law_other : Con) (C__law_pick : Con) (C_kind_of : Con) (C__law_long : Con) (C__law_deck : Con) : TPS :=
  zRet (oE (eC (.bool false)))
def r_law_1a_17a_2 (C_in_order : Con) (C_show_pattern : Con) (C_read_pattern : Con) (C_falls_under : Con) (C_fillings : Con) (C_filled : Con) (C_fits : Con) (C__law_kind : Con) (C_joined : Con) (C_is_line : Con) (C__law_other : Con) (C__law_pick : Con) (C_kind_of : Con) (C__law_long : Con) (C__law_deck : Con) : TPS :=
  zIf (bO (o2 pNe (xE (eO (oCall C_falls_under [] (sCons (xE (eV 13)) (sCons (xE (eO (oLst (sCons (xE (eV 10)) (sCons (xE (eV 9)) (sCons (xE (eV 8)) (sNil))))))) (sNil)))))) (xE (eO (oLc (iSq (eO (oM pSplit (eV 13) (xE (eC (.str " ")))))) (gNm 17) (tYes') (eO (oTup (sCons (xE (eC (.str "word"))) (sCons (xE (eV 17)) (sNil))))) [17])))))
  (zSeq (r_law_1a_17a_2a_1 C_in_order C_show_pattern C_read_pattern C_falls_under C_fillings C_filled C_fits C__law_kind C_joined C_is_line C__law_other C__law_pick C_kind_of C__law_long C__law_deck)
  (zNx))
  (zNx)
def r_law_1a_17a_1a_1 (C_in_order : Con) (C_show_pattern : Con) (C_read_pattern : Con) (C_falls_under : Con) (C_fillings : Con) (C_filled : Con) (C_fits : Con) (C__law_kind : Con) (C_joined : Con) (C_is_line : Con) (C__law_other : Con) (C__law_pick : Con) (C_kind_of : Con) (C__law_long : Con) (C__law_deck : Con) : TPS :=
  zRet (oE (eC (.bool false)))
def r_law_1a_17a_1 (C_in_order : Con) (C_show_pattern : Con) (C_read_pattern : Con) (C_falls_under : Con) (C_fillings : Con) (C_filled : Con) (C_fits : Con) (C__law_kind : Con) (C_joined : Con) (C_is_line : Con) (C__law_other : Con) (C__law_pick : Con) (C_kind_of : Con) (C__law_long : Con) (C__law_deck : Con) : TPS :=
  zIf (tOr (bO (o2 pNe (xE (eO (oCall C_fillings [] (sCons (xE (eV 10)) (sCons (xE (eV 13)) (sNil)))))) (xE (eO (oLst (sCons (xE (eV 14)) (sNil))))))) (bO (o2 pNe (xE (eO (oCall C_filled [] (sCons (xE (eV 10)) (sCons (xE (eO (oLst (sCons (xE (eV 14)) (sNil))))) (sNil)))))) (xV 13))))
  (zSeq (r_law_1a_17a_1a_1 C_in_order C_show_pattern C_read_pattern C_falls_under C_fillings C_filled C_fits C__law_kind C_joined C_is_line C__law_other C__law_pick C_kind_of C__law_long C__law_deck)
  (zNx))
  (zNx)
def r_law_1a_17f (C_in_order : Con) (C_show_pattern : Con) (C_read_pattern : Con) (C_falls_under : Con) (C_fillings : Con) (C_filled : Con) (C_fits : Con) (C__law_kind : Con) (C_joined : Con) (C_is_line : Con) (C__law_other : Con) (C__law_pick : Con) (C_kind_of : Con) (C__law_long : Con) (C__law_deck : Con) : TPS :=
  zSeq (r_law_1a_17a_1 C_in_order C_show_pattern C_read_pattern C_falls_under C_fillings C_filled C_fits C__law_kind C_joined C_is_line C__law_other C__law_pick C_kind_of C__law_long C__law_deck)
  (zSeq (r_law_1a_17a_2 C_in_order C_show_pattern C_read_pattern C_falls_under C_fillings C_filled C_fits C__law_kind C_joined C_is_line C__law_other C__law_pick C_kind_of C__law_long C__law_deck)
  (zNx))
def r_law_1a_17 (C_in_order : Con) (C_show_pattern : Con) (C_read_pattern : Con) (C_falls_under : Con) (C_fillings : Con) (C_filled : Con) (C_fits : Con) (C__law_kind : Con) (C_joined : Con) (C_is_line : Con) (C__law_other : Con) (C__law_pick : Con) (C_kind_of : Con) (C__law_long : Con) (C__law_deck : Con) : TPS :=
  zFor (iTp (eO (oTup (sCons (xE (eO (oTup (sCons (xE (eV 4)) (sCons (xE (eO (o2 pIx (xV 3) (xV 5)))) (sNil)))))) (sCons (xE (eO (oTup (sCons (xE (eV 7)) (sCons (xE (eO (o2 pIx (xV 6) (xV 5)))) (sNil)))))) (sNil)))))) (gTp2 13 14)
  (r_law_1a_17f C_in_order C_show_pattern C_read_pattern C_falls_under C_fillings C_filled C_fits C__law_kind C_joined C_is_line C__law_other C__law_pick C_kind_of C__law_long C__law_deck)
def r_law_1a_16a_1 (C_in_order : Con) (C_show_pattern : Con) (C_read_pattern : Con) (C_falls_under : Con) (C_fillings : Con) (C_filled : Con) (C_fits : Con) (C__law_kind : Con) (C_joined : Con) (C_is_line : Con) (C__law_other : Con) (C__law_pick : Con) (C_kind_of : Con) (C__law_long : Con) (C__law_deck : Con) : TPS :=
  zRet (oE (eC (.bool false)))
def r_law_1a_16 (C_in_order : Con) (C_show_pattern : Con) (C_read_pattern : Con) (C_falls_under : Con) (C_fillings : Con) (C_filled : Con) (C_fits : Con) (C__law_kind : Con) (C_joined : Con) (C_is_line : Con) (C__law_other : Con) (C__law_pick : Con) (C_kind_of : Con) (C__law_long : Con) (C__law_deck : Con) : TPS :=
  zIf (tOr (bO (oCall C_fits [] (sCons (xE (eV 8)) (sCons (xE (eV 7)) (sNil))))) (bO (oCall C_fits [] (sCons (xE (eV 9)) (sCons (xE (eV 4)) (sNil))))))
  (zSeq (r_law_1a_16a_1 C_in_order C_show_pattern C_read_pattern C_falls_under C_fillings C_filled C_fits C__law_kind C_joined C_is_line C__law_other C__law_pick C_kind_of C__law_long C__law_deck)
  (zNx))
  (zNx)
def r_law_1a_15a_1 (C_in_order : Con) (C_show_pattern : Con) (C_read_pattern : Con) (C_falls_under : Con) (C_fillings : Con) (C_filled : Con) (C_fits : Con) (C__law_kind : Con) (C_joined : Con) (C_is_line : Con) (C__law_other : Con) (C__law_pick : Con) (C_kind_of : Con) (C__law_long : Con) (C__law_deck : Con) : TPS :=
  zRet (oE (eC (.bool false)))
def r_law_1a_15 (C_in_order : Con) (C_show_pattern : Con) (C_read_pattern : Con) (C_falls_under : Con) (C_fillings : Con) (C_filled : Con) (C_fits : Con) (C__law_kind : Con) (C_joined : Con) (C_is_line : Con) (C__law_other : Con) (C__law_pick : Con) (C_kind_of : Con) (C__law_long : Con) (C__law_deck : Con) : TPS :=
  zIf (bO (o2 pNe (xV 10) (xE (eO (o2 pAdd (xE (eO (o2 pAdd (xE (eO (oSl (xV 8) (tP0) (tP1 (eV 5))))) (xE (eO (oLst (sCons (xE (eO (oTup (sCons (xE (eC (.str "hole"))) (sCons (xE (eV 12)) (sNil)))))) (sNil)))))))) (xE (eO (oSl (xV 8) (tP1 (eO (o2 pAdd (xV 5) (xE (eC (.int 1)))))) (tP0)))))))))
  (zSeq (r_law_1a_15a_1 C_in_order C_show_pattern C_read_pattern C_falls_under C_fillings C_filled C_fits C__law_kind C_joined C_is_line C__law_other C__law_pick C_kind_of C__law_long C__law_deck)
  (zNx))
  (zNx)
def r_law_1a_14 (C_in_order : Con) (C_show_pattern : Con) (C_read_pattern : Con) (C_falls_under : Con) (C_fillings : Con) (C_filled : Con) (C_fits : Con) (C__law_kind : Con) (C_joined : Con) (C_is_line : Con) (C__law_other : Con) (C__law_pick : Con) (C_kind_of : Con) (C__law_long : Con) (C__law_deck : Con) : TPS :=
  zSet 12 (oIf (tOr (bO (o2 pNe (xE (eO (o2 pIx (xV 11) (xE (eC (.int 0)))))) (xE (eO (o2 pIx (xV 11) (xE (eC (.int 1)))))))) (bO (o2 pEq (xE (eO (o2 pIx (xV 11) (xE (eC (.int 0)))))) (xE (eC (.str "other")))))) (oE (eC (.str "any"))) (o2 pIx (xV 11) (xE (eC (.int 0)))))
def r_law_1a_13 (C_in_order : Con) (C_show_pattern : Con) (C_read_pattern : Con) (C_falls_under : Con) (C_fillings : Con) (C_filled : Con) (C_fits : Con) (C__law_kind : Con) (C_joined : Con) (C_is_line : Con) (C__law_other : Con) (C__law_pick : Con) (C_kind_of : Con) (C__law_long : Con) (C__law_deck : Con) : TPS :=
  zSet 11 (oLst (sCons (xE (eO (oCall C__law_kind [] (sCons (xE (eO (o2 pIx (xV 3) (xV 5)))) (sNil))))) (sCons (xE (eO (oCall C__law_kind [] (sCons (xE (eO (o2 pIx (xV 6) (xV 5)))) (sNil))))) (sNil))))
def r_law_1a_12 (C_in_order : Con) (C_show_pattern : Con) (C_read_pattern : Con) (C_falls_under : Con) (C_fillings : Con) (C_filled : Con) (C_fits : Con) (C__law_kind : Con) (C_joined : Con) (C_is_line : Con) (C__law_other : Con) (C__law_pick : Con) (C_kind_of : Con) (C__law_long : Con) (C__law_deck : Con) : TPS :=
  zSet 10 (oCall C_joined [] (sCons (xE (eO (oLst (sCons (xE (eV 8)) (sCons (xE (eV 9)) (sNil)))))) (sNil)))
def r_law_1a_11 (C_in_order : Con) (C_show_pattern : Con) (C_read_pattern : Con) (C_falls_under : Con) (C_fillings : Con) (C_filled : Con) (C_fits : Con) (C__law_kind : Con) (C_joined : Con) (C_is_line : Con) (C__law_other : Con) (C__law_pick : Con) (C_kind_of : Con) (C__law_long : Con) (C__law_deck : Con) : TPS :=
  zSet 9 (oLc (iSq (eV 6)) (gNm 17) (tYes') (eO (oTup (sCons (xE (eC (.str "word"))) (sCons (xE (eV 17)) (sNil))))) [17])
def r_law_1a_10 (C_in_order : Con) (C_show_pattern : Con) (C_read_pattern : Con) (C_falls_under : Con) (C_fillings : Con) (C_filled : Con) (C_fits : Con) (C__law_kind : Con) (C_joined : Con) (C_is_line : Con) (C__law_other : Con) (C__law_pick : Con) (C_kind_of : Con) (C__law_long : Con) (C__law_deck : Con) : TPS :=
  zSet 8 (oLc (iSq (eV 3)) (gNm 17) (tYes') (eO (oTup (sCons (xE (eC (.str "word"))) (sCons (xE (eV 17)) (sNil))))) [17])
def r_law_1a_9a_1 (C_in_order : Con) (C_show_pattern : Con) (C_read_pattern : Con) (C_falls_under : Con) (C_fillings : Con) (C_filled : Con) (C_fits : Con) (C__law_kind : Con) (C_joined : Con) (C_is_line : Con) (C__law_other : Con) (C__law_pick : Con) (C_kind_of : Con) (C__law_long : Con) (C__law_deck : Con) : TPS :=
  zRet (oE (eC (.bool false)))
def r_law_1a_9 (C_in_order : Con) (C_show_pattern : Con) (C_read_pattern : Con) (C_falls_under : Con) (C_fillings : Con) (C_filled : Con) (C_fits : Con) (C__law_kind : Con) (C_joined : Con) (C_is_line : Con) (C__law_other : Con) (C__law_pick : Con) (C_kind_of : Con) (C__law_long : Con) (C__law_deck : Con) : TPS :=
  zIf (tOr (bO (o2 pNotB (xE (eO (oCall C_is_line [] (sCons (xE (eV 4)) (sNil))))) (xE (eC (.bool true))))) (tOr (bO (o2 pNotB (xE (eO (oCall C_is_line [] (sCons (xE (eV 7)) (sNil))))) (xE (eC (.bool true))))) (bO (o2 pEq (xV 4) (xV 7)))))
  (zSeq (r_law_1a_9a_1 C_in_order C_show_pattern C_read_pattern C_falls_under C_fillings C_filled C_fits C__law_kind C_joined C_is_line C__law_other C__law_pick C_kind_of C__law_long C__law_deck)
  (zNx))
  (zNx)
def r_law_1a_8 (C_in_order : Con) (C_show_pattern : Con) (C_read_pattern : Con) (C_falls_under : Con) (C_fillings : Con) (C_filled : Con) (C_fits : Con) (C__law_kind : Con) (C_joined : Con) (C_is_line : Con) (C__law_other : Con) (C__law_pick : Con) (C_kind_of : Con) (C__law_long : Con) (C__law_deck : Con) : TPS :=
  zSet 7 (oM pJoin (eC (.str " ")) (xV 6))
def r_law_1a_7 (C_in_order : Con) (C_show_pattern : Con) (C_read_pattern : Con) (C_falls_under : Con) (C_fillings : Con) (C_filled : Con) (C_fits : Con) (C__law_kind : Con) (C_joined : Con) (C_is_line : Con) (C__law_other : Con) (C__law_pick : Con) (C_kind_of : Con) (C__law_long : Con) (C__law_deck : Con) : TPS :=
  zPut 6 (eO (oCall C__law_other [] (sCons (xV 2) (sCons (xE (eO (o2 pIx (xV 3) (xV 5)))) (sNil))))) (xV 5)
def r_law_1a_6 (C_in_order : Con) (C_show_pattern : Con) (C_read_pattern : Con) (C_falls_under : Con) (C_fillings : Con) (C_filled : Con) (C_fits : Con) (C__law_kind : Con) (C_joined : Con) (C_is_line : Con) (C__law_other : Con) (C__law_pick : Con) (C_kind_of : Con) (C__law_long : Con) (C__law_deck : Con) : TPS :=
  zSet 6 (oN pList (s1 (xV 3)))
def r_law_1a_5 (C_in_order : Con) (C_show_pattern : Con) (C_read_pattern : Con) (C_falls_under : Con) (C_fillings : Con) (C_filled : Con) (C_fits : Con) (C__law_kind : Con) (C_joined : Con) (C_is_line : Con) (C__law_other : Con) (C__law_pick : Con) (C_kind_of : Con) (C__law_long : Con) (C__law_deck : Con) : TPS :=
  zSet 5 (oCall C__law_pick [] (sCons (xV 2) (sCons (xE (eO (oN pLen (s1 (xV 3))))) (sNil))))
def r_law_1a_4 (C_in_order : Con) (C_show_pattern : Con) (C_read_pattern : Con) (C_falls_under : Con) (C_fillings : Con) (C_filled : Con) (C_fits : Con) (C__law_kind : Con) (C_joined : Con) (C_is_line : Con) (C__law_other : Con) (C__law_pick : Con) (C_kind_of : Con) (C__law_long : Con) (C__law_deck : Con) : TPS :=
  zSet 4 (oM pJoin (eC (.str " ")) (xV 3))
def r_law_1a_3a_1 (C_in_order : Con) (C_show_pattern : Con) (C_read_pattern : Con) (C_falls_under : Con) (C_fillings : Con) (C_filled : Con) (C_fits : Con) (C__law_kind : Con) (C_joined : Con) (C_is_line : Con) (C__law_other : Con) (C__law_pick : Con) (C_kind_of : Con) (C__law_long : Con) (C__law_deck : Con) : TPS :=
  zRet (oE (eC (.bool false)))
def r_law_1a_3 (C_in_order : Con) (C_show_pattern : Con) (C_read_pattern : Con) (C_falls_under : Con) (C_fillings : Con) (C_filled : Con) (C_fits : Con) (C__law_kind : Con) (C_joined : Con) (C_is_line : Con) (C__law_other : Con) (C__law_pick : Con) (C_kind_of : Con) (C__law_long : Con) (C__law_deck : Con) : TPS :=
  zIf (bO (o2 pNe (xE (eO (oLc (iSq (eV 3)) (gNm 17) (bO (o2 pNe (xE (eO (oCall C_kind_of [] (sCons (xE (eV 17)) (sNil))))) (xE (eO (oCall C__law_kind [] (sCons (xE (eV 17)) (sNil))))))) (eV 17) [17]))) (xE (eO (oLst (sNil))))))
  (zSeq (r_law_1a_3a_1 C_in_order C_show_pattern C_read_pattern C_falls_under C_fillings C_filled C_fits C__law_kind C_joined C_is_line C__law_other C__law_pick C_kind_of C__law_long C__law_deck)
  (zNx))
  (zNx)
def r_law_1a_2 (C_in_order : Con) (C_show_pattern : Con) (C_read_pattern : Con) (C_falls_under : Con) (C_fillings : Con) (C_filled : Con) (C_fits : Con) (C__law_kind : Con) (C_joined : Con) (C_is_line : Con) (C__law_other : Con) (C__law_pick : Con) (C_kind_of : Con) (C__law_long : Con) (C__law_deck : Con) : TPS :=
  zSet 3 (oLc (iRg1 (xE (eO (o2 pAdd (xE (eC (.int 1))) (xE (eO (oCall C__law_pick [] (sCons (xV 2) (sCons (xE (eC (.int 12))) (sNil)))))))))) (gNm 16) (tYes') (eO (oCall C__law_long [] (sCons (xV 2) (sNil)))) [16])
def r_law_1a_1 (C_in_order : Con) (C_show_pattern : Con) (C_read_pattern : Con) (C_falls_under : Con) (C_fillings : Con) (C_filled : Con) (C_fits : Con) (C__law_kind : Con) (C_joined : Con) (C_is_line : Con) (C__law_other : Con) (C__law_pick : Con) (C_kind_of : Con) (C__law_long : Con) (C__law_deck : Con) : TPS :=
  zSet 2 (oCall C__law_deck [] (sCons (xE (eV 1)) (sCons (xE (eC (.int 0))) (sNil))))
def r_law_1f (C_in_order : Con) (C_show_pattern : Con) (C_read_pattern : Con) (C_falls_under : Con) (C_fillings : Con) (C_filled : Con) (C_fits : Con) (C__law_kind : Con) (C_joined : Con) (C_is_line : Con) (C__law_other : Con) (C__law_pick : Con) (C_kind_of : Con) (C__law_long : Con) (C__law_deck : Con) : TPS :=
  zSeq (r_law_1a_1 C_in_order C_show_pattern C_read_pattern C_falls_under C_fillings C_filled C_fits C__law_kind C_joined C_is_line C__law_other C__law_pick C_kind_of C__law_long C__law_deck)
  (zSeq (r_law_1a_2 C_in_order C_show_pattern C_read_pattern C_falls_under C_fillings C_filled C_fits C__law_kind C_joined C_is_line C__law_other C__law_pick C_kind_of C__law_long C__law_deck)
  (zSeq (r_law_1a_3 C_in_order C_show_pattern C_read_pattern C_falls_under C_fillings C_filled C_fits C__law_kind C_joined C_is_line C__law_other C__law_pick C_kind_of C__law_long C__law_deck)
  (zSeq (r_law_1a_4 C_in_order C_show_pattern C_read_pattern C_falls_under C_fillings C_filled C_fits C__law_kind C_joined C_is_line C__law_other C__law_pick C_kind_of C__law_long C__law_deck)
  (zSeq (r_law_1a_5 C_in_order C_show_pattern C_read_pattern C_falls_under C_fillings C_filled C_fits C__law_kind C_joined C_is_line C__law_other C__law_pick C_kind_of C__law_long C__law_deck)
  (zSeq (r_law_1a_6 C_in_order C_show_pattern C_read_pattern C_falls_under C_fillings C_filled C_fits C__law_kind C_joined C_is_line C__law_other C__law_pick C_kind_of C__law_long C__law_deck)
  (zSeq (r_law_1a_7 C_in_order C_show_pattern C_read_pattern C_falls_under C_fillings C_filled C_fits C__law_kind C_joined C_is_line C__law_other C__law_pick C_kind_of C__law_long C__law_deck)
  (zSeq (r_law_1a_8 C_in_order C_show_pattern C_read_pattern C_falls_under C_fillings C_filled C_fits C__law_kind C_joined C_is_line C__law_other C__law_pick C_kind_of C__law_long C__law_deck)
  (zSeq (r_law_1a_9 C_in_order C_show_pattern C_read_pattern C_falls_under C_fillings C_filled C_fits C__law_kind C_joined C_is_line C__law_other C__law_pick C_kind_of C__law_long C__law_deck)
  (zSeq (r_law_1a_10 C_in_order C_show_pattern C_read_pattern C_falls_under C_fillings C_filled C_fits C__law_kind C_joined C_is_line C__law_other C__law_pick C_kind_of C__law_long C__law_deck)
  (zSeq (r_law_1a_11 C_in_order C_show_pattern C_read_pattern C_falls_under C_fillings C_filled C_fits C__law_kind C_joined C_is_line C__law_other C__law_pick C_kind_of C__law_long C__law_deck)
  (zSeq (r_law_1a_12 C_in_order C_show_pattern C_read_pattern C_falls_under C_fillings C_filled C_fits C__law_kind C_joined C_is_line C__law_other C__law_pick C_kind_of C__law_long C__law_deck)
  (zSeq (r_law_1a_13 C_in_order C_show_pattern C_read_pattern C_falls_under C_fillings C_filled C_fits C__law_kind C_joined C_is_line C__law_other C__law_pick C_kind_of C__law_long C__law_deck)
  (zSeq (r_law_1a_14 C_in_order C_show_pattern C_read_pattern C_falls_under C_fillings C_filled C_fits C__law_kind C_joined C_is_line C__law_other C__law_pick C_kind_of C__law_long C__law_deck)
  (zSeq (r_law_1a_15 C_in_order C_show_pattern C_read_pattern C_falls_under C_fillings C_filled C_fits C__law_kind C_joined C_is_line C__law_other C__law_pick C_kind_of C__law_long C__law_deck)
  (zSeq (r_law_1a_16 C_in_order C_show_pattern C_read_pattern C_falls_under C_fillings C_filled C_fits C__law_kind C_joined C_is_line C__law_other C__law_pick C_kind_of C__law_long C__law_deck)
  (zSeq (r_law_1a_17 C_in_order C_show_pattern C_read_pattern C_falls_under C_fillings C_filled C_fits C__law_kind C_joined C_is_line C__law_other C__law_pick C_kind_of C__law_long C__law_deck)
  (zSeq (r_law_1a_18 C_in_order C_show_pattern C_read_pattern C_falls_under C_fillings C_filled C_fits C__law_kind C_joined C_is_line C__law_other C__law_pick C_kind_of C__law_long C__law_deck)
  (zSeq (r_law_1a_19 C_in_order C_show_pattern C_read_pattern C_falls_under C_fillings C_filled C_fits C__law_kind C_joined C_is_line C__law_other C__law_pick C_kind_of C__law_long C__law_deck)
  (zSeq (r_law_1a_20 C_in_order C_show_pattern C_read_pattern C_falls_under C_fillings C_filled C_fits C__law_kind C_joined C_is_line C__law_other C__law_pick C_kind_of C__law_long C__law_deck)
  (zNx))))))))))))))))))))
def r_law_1 (C_in_order : Con) (C_show_pattern : Con) (C_read_pattern : Con) (C_falls_under : Con) (C_fillings : Con) (C_filled : Con) (C_fits : Con) (C__law_kind : Con) (C_joined : Con) (C_is_line : Con) (C__law_other : Con) (C__law_pick : Con) (C_kind_of : Con) (C__law_long : Con) (C__law_deck : Con) : TPS :=
  zFor (iSq (eO (oSl (xE (eO (o2 pAdd (xV 0) (xE (eO (oLst (sCons (xE (eC (.int 0))) (sNil)))))))) (tP0) (tP1 (eC (.int 3)))))) (gNm 1)
  (r_law_1f C_in_order C_show_pattern C_read_pattern C_falls_under C_fillings C_filled C_fits C__law_kind C_joined C_is_line C__law_other C__law_pick C_kind_of C__law_long C__law_deck)
def r_law (C_in_order : Con) (C_show_pattern : Con) (C_read_pattern : Con) (C_falls_under : Con) (C_fillings : Con) (C_filled : Con) (C_fits : Con) (C__law_kind : Con) (C_joined : Con) (C_is_line : Con) (C__law_other : Con) (C__law_pick : Con) (C_kind_of : Con) (C__law_long : Con) (C__law_deck : Con) : TPS :=
  zSeq (r_law_1 C_in_order C_show_pattern C_read_pattern C_falls_under C_fillings C_filled C_fits C__law_kind C_joined C_is_line C__law_other C__law_pick C_kind_of C__law_long C__law_deck)
  (zSeq (r_law_2 C_in_order C_show_pattern C_read_pattern C_falls_under C_fillings C_filled C_fits C__law_kind C_joined C_is_line C__law_other C__law_pick C_kind_of C__law_long C__law_deck)
  (zNx))
def topS (i : Nat) : Stmt := PySem.Challenge.pw_loggather_k40_whole_long_words.main.body.getD i (.Pass ⟨0, 0, 0, 0⟩)
abbrev s_is_word : Stmt := topS 8
theorem sc_is_word : FnScope N_is_word ["thing"] (defScope s_is_word) := ⟨rfl, rfl, rfl, by decide +kernel, rfl, by decide +kernel, by decide +kernel⟩
theorem ok_is_word {P : Program} {w : World} {K : PySem.W.Frag} {mg : Str → Option Value} {base : Heap} {f : Addr} {fd : FuncData} {k : Nat} {C : Con} (F : FunA K "is_word" "is_word" s_is_word f fd)
    (b_all : mg "all" = none)
    (b_isinstance : mg "isinstance" = none)
    (b_str : mg "str" = none)
    (hC : ∀ os post, C os post → os.length = 1 ∧ r_is_word (dEnds [] os post) (start0 N_is_word.length os)) : FnG P w K mg base (k + 1) f fd ["thing"] (spOf K C) := by
  refine fn_ok F sc_is_word hC fun B cdv A outer s H E hgd hr => ?_
  have px := px_of (P := P) (w := w) (K := K) (mg := mg) (base := base) (outer := outer) (H := H) (E := E) hgd hr sc_is_word.nd
  exact (js_cons' (js_if (JW.jt (jw_or (jt_not (jt_o (jo_isi kit_str rfl b_isinstance rfl b_str Pl.b_str (jx_v (pv 0))))) (jw_or1 (jt_eq px (jx_v (pv 0)) (JE.jx je_str))))) (js_cons' (js_ret (JE.jo je_bl))
  js_nil') js_nil')
  (js_cons' (js_ret (jo_all px rfl b_all (JE.jx (JO.je (jo_lc px (ji_str (je_v (pv 0))) (own := [("sign", 1)]) (blkOk_by (N := N_is_word) (sc := defScope s_is_word) (by decide +kernel)) rfl (fun _ _ _ _ _ => (jg_n 1 px.b rfl (by first | exact .inl rfl | exact .inr rfl))) (fun _ _ _ _ _ => jts_nil) (fun _ _ _ _ _ => (je_or (JO.je (jo_lele (JE.jx je_str) (jx_v (pv 1)) (JE.jx je_str))) (je_one (JO.je (jo_lele (JE.jx je_str) (jx_v (pv 1)) (JE.jx je_str)))))))))))
  js_nil'))
abbrev s_kind_of : Stmt := topS 9
theorem sc_kind_of : FnScope N_kind_of ["word"] (defScope s_kind_of) := ⟨rfl, rfl, rfl, by decide +kernel, rfl, by decide +kernel, by decide +kernel⟩
theorem ok_kind_of {P : Program} {w : World} {K : PySem.W.Frag} {mg : Str → Option Value} {base : Heap} {f : Addr} {fd : FuncData} {k : Nat} {C : Con} (F : FunA K "kind_of" "kind_of" s_kind_of f fd)
    (g_FIGURES : Glob K mg "FIGURES" (.str "0123456789"))
    (b_all : mg "all" = none)
    (hC : ∀ os post, C os post → os.length = 1 ∧ r_kind_of (dEnds [] os post) (start0 N_kind_of.length os)) : FnG P w K mg base (k + 1) f fd ["word"] (spOf K C) := by
  refine fn_ok F sc_kind_of hC fun B cdv A outer s H E hgd hr => ?_
  have px := px_of (P := P) (w := w) (K := K) (mg := mg) (base := base) (outer := outer) (H := H) (E := E) hgd hr sc_kind_of.nd
  exact (js_cons' (js_st 1 px rfl (by decide) (by first | exact .inl rfl | exact .inr rfl) (JE.jo (je_v (pv 0))))
  (js_cons' (js_if (jt_eq px (JE.jx (JO.je (jo_sl (jx_v (pv 0)) jp_0 (jp_1 je_int)))) (JE.jx je_str)) (js_cons' (js_st 1 px rfl (by decide) (by first | exact .inl rfl | exact .inr rfl) (jo_sl (jx_v (pv 0)) (jp_1 je_int) jp_0))
  js_nil') js_nil')
  (js_cons' (js_if (JW.jt (jw_and (jt_ne px (jx_v (pv 1)) (JE.jx je_str)) (jw_and1 (jt_o (jo_all px rfl b_all (JE.jx (JO.je (jo_lc px (ji_str (je_v (pv 1))) (own := [("sign", 2)]) (blkOk_by (N := N_kind_of) (sc := defScope s_kind_of) (by decide +kernel)) rfl (fun _ _ _ _ _ => (jg_n 2 px.b rfl (by first | exact .inl rfl | exact .inr rfl))) (fun _ _ _ _ _ => jts_nil) (fun _ _ _ _ _ => (JO.je (jo_in px.b (jx_v (pv 2)) (JE.jx (je_gl g_FIGURES rfl))))))))))))) (js_cons' (js_ret (JE.jo je_str))
  js_nil') js_nil')
  (js_cons' (js_if (jt_o (jo_all px rfl b_all (JE.jx (JO.je (jo_lc px (ji_str (je_v (pv 0))) (own := [("sign", 2)]) (blkOk_by (N := N_kind_of) (sc := defScope s_kind_of) (by decide +kernel)) rfl (fun _ _ _ _ _ => (jg_n 2 px.b rfl (by first | exact .inl rfl | exact .inr rfl))) (fun _ _ _ _ _ => jts_nil) (fun _ _ _ _ _ => (JO.je (jo_lele (JE.jx je_str) (jx_v (pv 2)) (JE.jx je_str))))))))) (js_cons' (js_ret (JE.jo je_str))
  js_nil') js_nil')
  (js_cons' (js_ret (JE.jo je_str))
  js_nil')))))
abbrev s_words_of : Stmt := topS 10
theorem sc_words_of : FnScope N_words_of ["line"] (defScope s_words_of) := ⟨rfl, rfl, rfl, by decide +kernel, rfl, by decide +kernel, by decide +kernel⟩
theorem ok_words_of {P : Program} {w : World} {K : PySem.W.Frag} {mg : Str → Option Value} {base : Heap} {f : Addr} {fd : FuncData} {k : Nat} {C : Con} (F : FunA K "words_of" "words_of" s_words_of f fd)
    (hC : ∀ os post, C os post → os.length = 1 ∧ r_words_of (dEnds [] os post) (start0 N_words_of.length os)) : FnG P w K mg base (k + 1) f fd ["line"] (spOf K C) := by
  refine fn_ok F sc_words_of hC fun B cdv A outer s H E hgd hr => ?_
  have px := px_of (P := P) (w := w) (K := K) (mg := mg) (base := base) (outer := outer) (H := H) (E := E) hgd hr sc_words_of.nd
  exact (js_cons' (js_ret (jo_split (je_v (pv 0)) (JE.jx je_str)))
  js_nil')
abbrev s_is_line : Stmt := topS 11
theorem sc_is_line : FnScope N_is_line ["thing"] (defScope s_is_line) := ⟨rfl, rfl, rfl, by decide +kernel, rfl, by decide +kernel, by decide +kernel⟩
theorem ok_is_line {P : Program} {w : World} {K : PySem.W.Frag} {mg : Str → Option Value} {base : Heap} {f : Addr} {fd : FuncData} {k : Nat} {C C_is_word C_words_of : Con} (F : FunA K "is_line" "is_line" s_is_line f fd)
    (c_is_word : Callee P w K mg base k "is_word" [] C_is_word)
    (c_words_of : Callee P w K mg base k "words_of" [] C_words_of)
    (g_MOST_WORDS : Glob K mg "MOST_WORDS" (.int 12))
    (b_len : mg "len" = none)
    (b_all : mg "all" = none)
    (b_isinstance : mg "isinstance" = none)
    (b_str : mg "str" = none)
    (hC : ∀ os post, C os post → os.length = 1 ∧ r_is_line C_is_word C_words_of (dEnds [] os post) (start0 N_is_line.length os)) : FnG P w K mg base (k + 1) f fd ["thing"] (spOf K C) := by
  refine fn_ok F sc_is_line hC fun B cdv A outer s H E hgd hr => ?_
  have px := px_of (P := P) (w := w) (K := K) (mg := mg) (base := base) (outer := outer) (H := H) (E := E) hgd hr sc_is_line.nd
  exact (js_cons' (js_if (jt_not (jt_o (jo_isi kit_str rfl b_isinstance rfl b_str Pl.b_str (jx_v (pv 0))))) (js_cons' (js_ret (JE.jo je_bl))
  js_nil') js_nil')
  (js_cons' (js_st 1 px rfl (by decide) (by first | exact .inl rfl | exact .inr rfl) (jo_call px c_words_of hr rfl (js_cons (JE.jx (je_v (pv 0))) js_nil)))
  (js_cons' (js_ret (JE.jo (je_and (JO.je (jo_le (JE.jx (JO.je (jo_len rfl b_len (jx_v (pv 1))))) (JE.jx (je_gl g_MOST_WORDS rfl)))) (je_one (JO.je (jo_all px rfl b_all (JE.jx (JO.je (jo_lc px (ji_list (je_v (pv 1))) (own := [("word", 2)]) (blkOk_by (N := N_is_line) (sc := defScope s_is_line) (by decide +kernel)) rfl (fun _ _ _ _ _ => (jg_n 2 px.b rfl (by first | exact .inl rfl | exact .inr rfl))) (fun _ _ _ _ _ => jts_nil) (fun _ _ _ _ _ => (JO.je (jo_call px.b c_is_word hr rfl (js_cons (JE.jx (je_v (pv 2))) js_nil)))))))))))))
  js_nil')))
abbrev s_word_place : Stmt := topS 12
theorem sc_word_place : FnScope N_word_place ["word"] (defScope s_word_place) := ⟨rfl, rfl, rfl, by decide +kernel, rfl, by decide +kernel, by decide +kernel⟩
theorem ok_word_place {P : Program} {w : World} {K : PySem.W.Frag} {mg : Str → Option Value} {base : Heap} {f : Addr} {fd : FuncData} {k : Nat} {C : Con} (F : FunA K "word_place" "word_place" s_word_place f fd)
    (b_len : mg "len" = none)
    (hC : ∀ os post, C os post → os.length = 1 ∧ r_word_place (dEnds [] os post) (start0 N_word_place.length os)) : FnG P w K mg base (k + 1) f fd ["word"] (spOf K C) := by
  refine fn_ok F sc_word_place hC fun B cdv A outer s H E hgd hr => ?_
  have px := px_of (P := P) (w := w) (K := K) (mg := mg) (base := base) (outer := outer) (H := H) (E := E) hgd hr sc_word_place.nd
  exact (js_cons' (js_ret (jo_tup (js_cons (JE.jx (JO.je (jo_len rfl b_len (jx_v (pv 0))))) (js_cons (JE.jx (je_v (pv 0))) js_nil))))
  js_nil')
abbrev s_line_place : Stmt := topS 13
theorem sc_line_place : FnScope N_line_place ["line"] (defScope s_line_place) := ⟨rfl, rfl, rfl, by decide +kernel, rfl, by decide +kernel, by decide +kernel⟩
theorem ok_line_place {P : Program} {w : World} {K : PySem.W.Frag} {mg : Str → Option Value} {base : Heap} {f : Addr} {fd : FuncData} {k : Nat} {C C_word_place C_words_of : Con} (F : FunA K "line_place" "line_place" s_line_place f fd)
    (c_word_place : Callee P w K mg base k "word_place" [] C_word_place)
    (c_words_of : Callee P w K mg base k "words_of" [] C_words_of)
    (b_len : mg "len" = none)
    (hC : ∀ os post, C os post → os.length = 1 ∧ r_line_place C_word_place C_words_of (dEnds [] os post) (start0 N_line_place.length os)) : FnG P w K mg base (k + 1) f fd ["line"] (spOf K C) := by
  refine fn_ok F sc_line_place hC fun B cdv A outer s H E hgd hr => ?_
  have px := px_of (P := P) (w := w) (K := K) (mg := mg) (base := base) (outer := outer) (H := H) (E := E) hgd hr sc_line_place.nd
  exact (js_cons' (js_st 1 px rfl (by decide) (by first | exact .inl rfl | exact .inr rfl) (jo_call px c_words_of hr rfl (js_cons (JE.jx (je_v (pv 0))) js_nil)))
  (js_cons' (js_ret (jo_tup (js_cons (JE.jx (JO.je (jo_len rfl b_len (jx_v (pv 1))))) (js_cons (JE.jx (JO.je (jo_lc px (ji_list (je_v (pv 1))) (own := [("word", 2)]) (blkOk_by (N := N_line_place) (sc := defScope s_line_place) (by decide +kernel)) rfl (fun _ _ _ _ _ => (jg_n 2 px.b rfl (by first | exact .inl rfl | exact .inr rfl))) (fun _ _ _ _ _ => jts_nil) (fun _ _ _ _ _ => (JO.je (jo_call px.b c_word_place hr rfl (js_cons (JE.jx (je_v (pv 2))) js_nil))))))) js_nil))))
  js_nil'))
abbrev s_in_order : Stmt := topS 14
theorem sc_in_order : FnScope N_in_order ["lines"] (defScope s_in_order) := ⟨rfl, rfl, rfl, by decide +kernel, rfl, by decide +kernel, by decide +kernel⟩
theorem ok_in_order {P : Program} {w : World} {K : PySem.W.Frag} {mg : Str → Option Value} {base : Heap} {f : Addr} {fd : FuncData} {k : Nat} {C C_line_place : Con} (F : FunA K "in_order" "in_order" s_in_order f fd)
    (c_line_place : Callee P w K mg base k "line_place" [] C_line_place)
    (b_sorted : mg "sorted" = none)
    (hC : ∀ os post, C os post → os.length = 1 ∧ r_in_order C_line_place (dEnds [] os post) (start0 N_in_order.length os)) : FnG P w K mg base (k + 1) f fd ["lines"] (spOf K C) := by
  refine fn_ok F sc_in_order hC fun B cdv A outer s H E hgd hr => ?_
  have px := px_of (P := P) (w := w) (K := K) (mg := mg) (base := base) (outer := outer) (H := H) (E := E) hgd hr sc_in_order.nd
  exact (js_cons' (js_ret (jo_lc px (ji_list (JO.je (jo_sorted px rfl b_sorted (JE.jx (JO.je (jo_lc px (ji_list (je_v (pv 0))) (own := [("line", 1)]) (blkOk_by (N := N_in_order) (sc := defScope s_in_order) (by decide +kernel)) rfl (fun _ _ _ _ _ => (jg_n 1 px.b rfl (by first | exact .inl rfl | exact .inr rfl))) (fun _ _ _ _ _ => jts_nil) (fun _ _ _ _ _ => (JO.je (jo_tup (js_cons (JE.jx (JO.je (jo_call px.b c_line_place hr rfl (js_cons (JE.jx (je_v (pv 1))) js_nil)))) (js_cons (JE.jx (je_v (pv 1))) js_nil))))))))))) (own := [("place", 2), ("line", 1)]) (blkOk_by (N := N_in_order) (sc := defScope s_in_order) (by decide +kernel)) rfl (fun _ _ _ _ _ => (jg_t2 2 1 px.b rfl rfl (by first | exact .inl rfl | exact .inr rfl) (by first | exact .inl rfl | exact .inr rfl))) (fun _ _ _ _ _ => jts_nil) (fun _ _ _ _ _ => (je_v (pv 1)))))
  js_nil')
abbrev s_is_part : Stmt := topS 17
theorem sc_is_part : FnScope N_is_part ["thing"] (defScope s_is_part) := ⟨rfl, rfl, rfl, by decide +kernel, rfl, by decide +kernel, by decide +kernel⟩
theorem ok_is_part {P : Program} {w : World} {K : PySem.W.Frag} {mg : Str → Option Value} {base : Heap} {f : Addr} {fd : FuncData} {k : Nat} {C C_is_word : Con} (F : FunA K "is_part" "is_part" s_is_part f fd)
    (c_is_word : Callee P w K mg base k "is_word" [] C_is_word)
    (g_KINDS : GlobT K mg "KINDS" ["number", "name", "any"])
    (b_isinstance : mg "isinstance" = none)
    (b_str : mg "str" = none)
    (b_tuple : mg "tuple" = none)
    (b_len : mg "len" = none)
    (hC : ∀ os post, C os post → os.length = 1 ∧ r_is_part C_is_word (dEnds [] os post) (start0 N_is_part.length os)) : FnG P w K mg base (k + 1) f fd ["thing"] (spOf K C) := by
  refine fn_ok F sc_is_part hC fun B cdv A outer s H E hgd hr => ?_
  have px := px_of (P := P) (w := w) (K := K) (mg := mg) (base := base) (outer := outer) (H := H) (E := E) hgd hr sc_is_part.nd
  exact (js_cons' (js_if (JW.jt (jw_or (jt_not (jt_o (jo_isi kit_tuple rfl b_isinstance rfl b_tuple Pl.b_tuple (jx_v (pv 0))))) (jw_or (jt_ne px (JE.jx (JO.je (jo_len rfl b_len (jx_v (pv 0))))) (JE.jx je_int)) (jw_or1 (jt_not (jt_o (jo_isi kit_str rfl b_isinstance rfl b_str Pl.b_str (JE.jx (JO.je (jo_ix (jx_v (pv 0)) (JE.jx je_int))))))))))) (js_cons' (js_ret (JE.jo je_bl))
  js_nil') js_nil')
  (js_cons' (js_if (jt_eq px (JE.jx (JO.je (jo_ix (jx_v (pv 0)) (JE.jx je_int)))) (JE.jx je_str)) (js_cons' (js_ret (jo_call px c_is_word hr rfl (js_cons (JE.jx (JO.je (jo_ix (jx_v (pv 0)) (JE.jx je_int)))) js_nil)))
  js_nil') js_nil')
  (js_cons' (js_ret (JE.jo (je_and (JO.je (jo_eq px (JE.jx (JO.je (jo_ix (jx_v (pv 0)) (JE.jx je_int)))) (JE.jx je_str))) (je_and (JO.je (jo_isi kit_str rfl b_isinstance rfl b_str Pl.b_str (JE.jx (JO.je (jo_ix (jx_v (pv 0)) (JE.jx je_int)))))) (je_one (JO.je (jo_in px (JE.jx (JO.je (jo_ix (jx_v (pv 0)) (JE.jx je_int)))) (JE.jx (je_gl g_KINDS.glob rfl)))))))))
  js_nil')))
abbrev s_is_pattern : Stmt := topS 18
theorem sc_is_pattern : FnScope N_is_pattern ["thing"] (defScope s_is_pattern) := ⟨rfl, rfl, rfl, by decide +kernel, rfl, by decide +kernel, by decide +kernel⟩
theorem ok_is_pattern {P : Program} {w : World} {K : PySem.W.Frag} {mg : Str → Option Value} {base : Heap} {f : Addr} {fd : FuncData} {k : Nat} {C C_is_part : Con} (F : FunA K "is_pattern" "is_pattern" s_is_pattern f fd)
    (c_is_part : Callee P w K mg base k "is_part" [] C_is_part)
    (g_MOST_WORDS : Glob K mg "MOST_WORDS" (.int 12))
    (b_isinstance : mg "isinstance" = none)
    (b_list : mg "list" = none)
    (b_len : mg "len" = none)
    (b_all : mg "all" = none)
    (hC : ∀ os post, C os post → os.length = 1 ∧ r_is_pattern C_is_part (dEnds [] os post) (start0 N_is_pattern.length os)) : FnG P w K mg base (k + 1) f fd ["thing"] (spOf K C) := by
  refine fn_ok F sc_is_pattern hC fun B cdv A outer s H E hgd hr => ?_
  have px := px_of (P := P) (w := w) (K := K) (mg := mg) (base := base) (outer := outer) (H := H) (E := E) hgd hr sc_is_pattern.nd
  exact (js_cons' (js_ret (JE.jo (je_and (JO.je (jo_isi kit_list rfl b_isinstance rfl b_list Pl.b_list (jx_v (pv 0)))) (je_and (JO.je (jo_lele (JE.jx je_int) (JE.jx (JO.je (jo_len rfl b_len (jx_v (pv 0))))) (JE.jx (je_gl g_MOST_WORDS rfl)))) (je_one (JO.je (jo_all px rfl b_all (JE.jx (JO.je (jo_lc px (ji_list (je_v (pv 0))) (own := [("part", 1)]) (blkOk_by (N := N_is_pattern) (sc := defScope s_is_pattern) (by decide +kernel)) rfl (fun _ _ _ _ _ => (jg_n 1 px.b rfl (by first | exact .inl rfl | exact .inr rfl))) (fun _ _ _ _ _ => jts_nil) (fun _ _ _ _ _ => (JO.je (jo_call px.b c_is_part hr rfl (js_cons (JE.jx (je_v (pv 1))) js_nil))))))))))))))
  js_nil')
abbrev s_fits_part : Stmt := topS 19
theorem sc_fits_part : FnScope N_fits_part ["part", "word"] (defScope s_fits_part) := ⟨rfl, rfl, rfl, by decide +kernel, rfl, by decide +kernel, by decide +kernel⟩
theorem ok_fits_part {P : Program} {w : World} {K : PySem.W.Frag} {mg : Str → Option Value} {base : Heap} {f : Addr} {fd : FuncData} {k : Nat} {C C_kind_of : Con} (F : FunA K "fits_part" "fits_part" s_fits_part f fd)
    (c_kind_of : Callee P w K mg base k "kind_of" [] C_kind_of)
    (hC : ∀ os post, C os post → os.length = 2 ∧ r_fits_part C_kind_of (dEnds [] os post) (start0 N_fits_part.length os)) : FnG P w K mg base (k + 1) f fd ["part", "word"] (spOf K C) := by
  refine fn_ok F sc_fits_part hC fun B cdv A outer s H E hgd hr => ?_
  have px := px_of (P := P) (w := w) (K := K) (mg := mg) (base := base) (outer := outer) (H := H) (E := E) hgd hr sc_fits_part.nd
  exact (js_cons' (js_if (jt_eq px (JE.jx (JO.je (jo_ix (jx_v (pv 0)) (JE.jx je_int)))) (JE.jx je_str)) (js_cons' (js_ret (jo_eq px (JE.jx (JO.je (jo_ix (jx_v (pv 0)) (JE.jx je_int)))) (jx_v (pv 1))))
  js_nil') js_nil')
  (js_cons' (js_ret (JE.jo (je_or (JO.je (jo_eq px (JE.jx (JO.je (jo_ix (jx_v (pv 0)) (JE.jx je_int)))) (JE.jx je_str))) (je_one (JO.je (jo_eq px (JE.jx (JO.je (jo_ix (jx_v (pv 0)) (JE.jx je_int)))) (JE.jx (JO.je (jo_call px c_kind_of hr rfl (js_cons (JE.jx (je_v (pv 1))) js_nil))))))))))
  js_nil'))
abbrev s_fits : Stmt := topS 20
theorem sc_fits : FnScope N_fits ["pattern", "line"] (defScope s_fits) := ⟨rfl, rfl, rfl, by decide +kernel, rfl, by decide +kernel, by decide +kernel⟩
theorem ok_fits {P : Program} {w : World} {K : PySem.W.Frag} {mg : Str → Option Value} {base : Heap} {f : Addr} {fd : FuncData} {k : Nat} {C C_fits_part C_words_of : Con} (F : FunA K "fits" "fits" s_fits f fd)
    (c_fits_part : Callee P w K mg base k "fits_part" [] C_fits_part)
    (c_words_of : Callee P w K mg base k "words_of" [] C_words_of)
    (b_zip : mg "zip" = none)
    (b_len : mg "len" = none)
    (hC : ∀ os post, C os post → os.length = 2 ∧ r_fits C_fits_part C_words_of (dEnds [] os post) (start0 N_fits.length os)) : FnG P w K mg base (k + 1) f fd ["pattern", "line"] (spOf K C) := by
  refine fn_ok F sc_fits hC fun B cdv A outer s H E hgd hr => ?_
  have px := px_of (P := P) (w := w) (K := K) (mg := mg) (base := base) (outer := outer) (H := H) (E := E) hgd hr sc_fits.nd
  exact (js_cons' (js_st 2 px rfl (by decide) (by first | exact .inl rfl | exact .inr rfl) (jo_call px c_words_of hr rfl (js_cons (JE.jx (je_v (pv 1))) js_nil)))
  (js_cons' (js_if (jt_ne px (JE.jx (JO.je (jo_len rfl b_len (jx_v (pv 2))))) (JE.jx (JO.je (jo_len rfl b_len (jx_v (pv 0)))))) (js_cons' (js_ret (JE.jo je_bl))
  js_nil') js_nil')
  (js_cons' (js_for px PassesOwn.never (by decide) (ji_zip rfl b_zip (je_v (pv 0)) (je_v (pv 2))) (jg_t2 3 4 px rfl rfl (by first | exact .inl rfl | exact .inr rfl) (by first | exact .inl rfl | exact .inr rfl)) (js_cons' (js_if (jt_not (jt_o (jo_call px c_fits_part hr rfl (js_cons (JE.jx (je_v (pv 3))) (js_cons (JE.jx (je_v (pv 4))) js_nil))))) (js_cons' (js_ret (JE.jo je_bl))
  js_nil') js_nil')
  js_nil'))
  (js_cons' (js_ret (JE.jo je_bl))
  js_nil'))))
abbrev s_fillings : Stmt := topS 21
theorem sc_fillings : FnScope N_fillings ["pattern", "line"] (defScope s_fillings) := ⟨rfl, rfl, rfl, by decide +kernel, rfl, by decide +kernel, by decide +kernel⟩
theorem ok_fillings {P : Program} {w : World} {K : PySem.W.Frag} {mg : Str → Option Value} {base : Heap} {f : Addr} {fd : FuncData} {k : Nat} {C C_words_of C_fits : Con} (F : FunA K "fillings" "fillings" s_fillings f fd)
    (c_words_of : Callee P w K mg base k "words_of" [] C_words_of)
    (c_fits : Callee P w K mg base k "fits" [] C_fits)
    (b_zip : mg "zip" = none)
    (hC : ∀ os post, C os post → os.length = 2 ∧ r_fillings C_words_of C_fits (dEnds [] os post) (start0 N_fillings.length os)) : FnG P w K mg base (k + 1) f fd ["pattern", "line"] (spOf K C) := by
  refine fn_ok F sc_fillings hC fun B cdv A outer s H E hgd hr => ?_
  have px := px_of (P := P) (w := w) (K := K) (mg := mg) (base := base) (outer := outer) (H := H) (E := E) hgd hr sc_fillings.nd
  exact (js_cons' (js_if (jt_not (jt_o (jo_call px c_fits hr rfl (js_cons (JE.jx (je_v (pv 0))) (js_cons (JE.jx (je_v (pv 1))) js_nil))))) (js_cons' js_never
  js_nil') js_nil')
  (js_cons' (js_ret (jo_lc px (ji_zip rfl b_zip (je_v (pv 0)) (JO.je (jo_call px c_words_of hr rfl (js_cons (JE.jx (je_v (pv 1))) js_nil)))) (own := [("part", 2), ("word", 3)]) (blkOk_by (N := N_fillings) (sc := defScope s_fillings) (by decide +kernel)) rfl (fun _ _ _ _ _ => (jg_t2 2 3 px.b rfl rfl (by first | exact .inl rfl | exact .inr rfl) (by first | exact .inl rfl | exact .inr rfl))) (fun _ _ _ _ _ => (jts_one (jt_eq px.b (JE.jx (JO.je (jo_ix (jx_v (pv 2)) (JE.jx je_int)))) (JE.jx je_str)))) (fun _ _ _ _ _ => (je_v (pv 3)))))
  js_nil'))
abbrev s_filled : Stmt := topS 22
theorem sc_filled : FnScope N_filled ["pattern", "words"] (defScope s_filled) := ⟨rfl, rfl, rfl, by decide +kernel, rfl, by decide +kernel, by decide +kernel⟩
theorem ok_filled {P : Program} {w : World} {K : PySem.W.Frag} {mg : Str → Option Value} {base : Heap} {f : Addr} {fd : FuncData} {k : Nat} {C C_is_word C_fits_part : Con} (F : FunA K "filled" "filled" s_filled f fd)
    (c_is_word : Callee P w K mg base k "is_word" [] C_is_word)
    (c_fits_part : Callee P w K mg base k "fits_part" [] C_fits_part)
    (b_list : mg "list" = none)
    (hC : ∀ os post, C os post → os.length = 2 ∧ r_filled C_is_word C_fits_part (dEnds [] os post) (start0 N_filled.length os)) : FnG P w K mg base (k + 1) f fd ["pattern", "words"] (spOf K C) := by
  refine fn_ok F sc_filled hC fun B cdv A outer s H E hgd hr => ?_
  have px := px_of (P := P) (w := w) (K := K) (mg := mg) (base := base) (outer := outer) (H := H) (E := E) hgd hr sc_filled.nd
  exact (js_cons' (js_st 2 px rfl (by decide) (by first | exact .inl rfl | exact .inr rfl) (jo_list rfl b_list (jx_v (pv 1))))
  (js_cons' (js_st 3 px rfl (by decide) (by first | exact .inl rfl | exact .inr rfl) (jo_lst js_nil))
  (js_cons' (js_for px PassesOwn.never (by decide) (ji_list (je_v (pv 0))) (jg_n 4 px rfl (by first | exact .inl rfl | exact .inr rfl)) (js_cons' (js_if (jt_eq px (JE.jx (JO.je (jo_ix (jx_v (pv 4)) (JE.jx je_int)))) (JE.jx je_str)) (js_cons' (js_app (pv 3) (JO.je (jo_ix (jx_v (pv 4)) (JE.jx je_int))))
  js_nil') (js_cons' (js_if (JW.jt (jw_or (jt_eq px (jx_v (pv 2)) (JE.jx (JO.je (jo_lst js_nil)))) (jw_or (jt_not (jt_o (jo_call px c_is_word hr rfl (js_cons (JE.jx (JO.je (jo_ix (jx_v (pv 2)) (JE.jx je_int)))) js_nil)))) (jw_or1 (jt_not (jt_o (jo_call px c_fits_part hr rfl (js_cons (JE.jx (je_v (pv 4))) (js_cons (JE.jx (JO.je (jo_ix (jx_v (pv 2)) (JE.jx je_int)))) js_nil))))))))) (js_cons' js_never
  js_nil') js_nil')
  (js_cons' (js_app (pv 3) (JO.je (jo_pop0 (pv 2))))
  js_nil')))
  js_nil'))
  (js_cons' (js_if (jt_ne px (jx_v (pv 2)) (JE.jx (JO.je (jo_lst js_nil)))) (js_cons' js_never
  js_nil') js_nil')
  (js_cons' (js_ret (jo_join je_str (jx_v (pv 3))))
  js_nil')))))
abbrev s_joined_parts : Stmt := topS 23
theorem sc_joined_parts : FnScope N_joined_parts ["parts"] (defScope s_joined_parts) := ⟨rfl, rfl, rfl, by decide +kernel, rfl, by decide +kernel, by decide +kernel⟩
theorem ok_joined_parts {P : Program} {w : World} {K : PySem.W.Frag} {mg : Str → Option Value} {base : Heap} {f : Addr} {fd : FuncData} {k : Nat} {C C_kind_of : Con} (F : FunA K "joined_parts" "joined_parts" s_joined_parts f fd)
    (c_kind_of : Callee P w K mg base k "kind_of" [] C_kind_of)
    (b_all : mg "all" = none)
    (hC : ∀ os post, C os post → os.length = 1 ∧ r_joined_parts C_kind_of (dEnds [] os post) (start0 N_joined_parts.length os)) : FnG P w K mg base (k + 1) f fd ["parts"] (spOf K C) := by
  refine fn_ok F sc_joined_parts hC fun B cdv A outer s H E hgd hr => ?_
  have px := px_of (P := P) (w := w) (K := K) (mg := mg) (base := base) (outer := outer) (H := H) (E := E) hgd hr sc_joined_parts.nd
  exact (js_cons' (js_if (jt_o (jo_all px rfl b_all (JE.jx (JO.je (jo_lc px (ji_list (je_v (pv 0))) (own := [("part", 2)]) (blkOk_by (N := N_joined_parts) (sc := defScope s_joined_parts) (by decide +kernel)) rfl (fun _ _ _ _ _ => (jg_n 2 px.b rfl (by first | exact .inl rfl | exact .inr rfl))) (fun _ _ _ _ _ => jts_nil) (fun _ _ _ _ _ => (JO.je (jo_eq px.b (jx_v (pv 2)) (JE.jx (JO.je (jo_ix (jx_v (pv 0)) (JE.jx je_int)))))))))))) (js_cons' (js_ret (jo_ix (jx_v (pv 0)) (JE.jx je_int)))
  js_nil') js_nil')
  (js_cons' (js_st 1 px rfl (by decide) (by first | exact .inl rfl | exact .inr rfl) (jo_lst js_nil))
  (js_cons' (js_for px PassesOwn.never (by decide) (ji_list (je_v (pv 0))) (jg_n 2 px rfl (by first | exact .inl rfl | exact .inr rfl)) (js_cons' (js_st 3 px rfl (by decide) (by first | exact .inl rfl | exact .inr rfl) (jo_ix (jx_v (pv 2)) (JE.jx je_int)))
  (js_cons' (js_if (jt_eq px (JE.jx (JO.je (jo_ix (jx_v (pv 2)) (JE.jx je_int)))) (JE.jx je_str)) (js_cons' (js_st 3 px rfl (by decide) (by first | exact .inl rfl | exact .inr rfl) (jo_call px c_kind_of hr rfl (js_cons (JE.jx (je_v (pv 3))) js_nil)))
  js_nil') js_nil')
  (js_cons' (js_app (pv 1) (je_v (pv 3)))
  js_nil'))))
  (js_cons' (js_if (JW.jt (jw_and (jt_o (jo_all px rfl b_all (JE.jx (JO.je (jo_lc px (ji_list (je_v (pv 1))) (own := [("kind", 3)]) (blkOk_by (N := N_joined_parts) (sc := defScope s_joined_parts) (by decide +kernel)) rfl (fun _ _ _ _ _ => (jg_n 3 px.b rfl (by first | exact .inl rfl | exact .inr rfl))) (fun _ _ _ _ _ => jts_nil) (fun _ _ _ _ _ => (JO.je (jo_eq px.b (jx_v (pv 3)) (JE.jx (JO.je (jo_ix (jx_v (pv 1)) (JE.jx je_int)))))))))))) (jw_and1 (jt_in px (JE.jx (JO.je (jo_ix (jx_v (pv 1)) (JE.jx je_int)))) (JE.jx (JO.je (jo_tup (js_cons (JE.jx je_str) (js_cons (JE.jx je_str) js_nil))))))))) (js_cons' (js_ret (jo_tup (js_cons (JE.jx je_str) (js_cons (JE.jx (JO.je (jo_ix (jx_v (pv 1)) (JE.jx je_int)))) js_nil))))
  js_nil') js_nil')
  (js_cons' (js_ret (jo_tup (js_cons (JE.jx je_str) (js_cons (JE.jx je_str) js_nil))))
  js_nil')))))
abbrev s_joined : Stmt := topS 24
theorem sc_joined : FnScope N_joined ["patterns"] (defScope s_joined) := ⟨rfl, rfl, rfl, by decide +kernel, rfl, by decide +kernel, by decide +kernel⟩
theorem ok_joined {P : Program} {w : World} {K : PySem.W.Frag} {mg : Str → Option Value} {base : Heap} {f : Addr} {fd : FuncData} {k : Nat} {C C_joined_parts : Con} (F : FunA K "joined" "joined" s_joined f fd)
    (c_joined_parts : Callee P w K mg base k "joined_parts" [] C_joined_parts)
    (b_len : mg "len" = none)
    (b_range : mg "range" = none)
    (b_any : mg "any" = none)
    (hC : ∀ os post, C os post → os.length = 1 ∧ r_joined C_joined_parts (dEnds [] os post) (start0 N_joined.length os)) : FnG P w K mg base (k + 1) f fd ["patterns"] (spOf K C) := by
  refine fn_ok F sc_joined hC fun B cdv A outer s H E hgd hr => ?_
  have px := px_of (P := P) (w := w) (K := K) (mg := mg) (base := base) (outer := outer) (H := H) (E := E) hgd hr sc_joined.nd
  exact (js_cons' (js_if (JW.jt (jw_or (jt_eq px (jx_v (pv 0)) (JE.jx (JO.je (jo_lst js_nil)))) (jw_or1 (jt_o (jo_any px rfl b_any (JE.jx (JO.je (jo_lc px (ji_list (je_v (pv 0))) (own := [("pattern", 1)]) (blkOk_by (N := N_joined) (sc := defScope s_joined) (by decide +kernel)) rfl (fun _ _ _ _ _ => (jg_n 1 px.b rfl (by first | exact .inl rfl | exact .inr rfl))) (fun _ _ _ _ _ => jts_nil) (fun _ _ _ _ _ => (JO.je (jo_ne px.b (JE.jx (JO.je (jo_len rfl b_len (jx_v (pv 1))))) (JE.jx (JO.je (jo_len rfl b_len (JE.jx (JO.je (jo_ix (jx_v (pv 0)) (JE.jx je_int)))))))))))))))))) (js_cons' js_never
  js_nil') js_nil')
  (js_cons' (js_ret (jo_lc px (ji_rg1 rfl b_range (JE.jx (JO.je (jo_len rfl b_len (JE.jx (JO.je (jo_ix (jx_v (pv 0)) (JE.jx je_int)))))))) (own := [("at", 2)]) (blkOk_by (N := N_joined) (sc := defScope s_joined) (by decide +kernel)) rfl (fun _ _ _ _ _ => (jg_n 2 px.b rfl (by first | exact .inl rfl | exact .inr rfl))) (fun _ _ _ _ _ => jts_nil) (fun _ _ _ _ _ => (JO.je (jo_call px.b c_joined_parts hr rfl (js_cons (JE.jx (JO.je (jo_lc px.b (ji_list (je_v (pv 0))) (own := [("pattern", 1)]) (blkOk_by (by kernel_rfl)) rfl (fun _ _ _ _ _ => (jg_n 1 px.b.b rfl (by first | exact .inl rfl | exact .inr rfl))) (fun _ _ _ _ _ => jts_nil) (fun _ _ _ _ _ => (JO.je (jo_ix (jx_v (pv 1)) (jx_v (pv 2)))))))) js_nil))))))
  js_nil'))
abbrev s_pattern_place : Stmt := topS 25
theorem sc_pattern_place : FnScope N_pattern_place ["pattern"] (defScope s_pattern_place) := ⟨rfl, rfl, rfl, by decide +kernel, rfl, by decide +kernel, by decide +kernel⟩
theorem ok_pattern_place {P : Program} {w : World} {K : PySem.W.Frag} {mg : Str → Option Value} {base : Heap} {f : Addr} {fd : FuncData} {k : Nat} {C C_word_place : Con} (F : FunA K "pattern_place" "pattern_place" s_pattern_place f fd)
    (c_word_place : Callee P w K mg base k "word_place" [] C_word_place)
    (g_KINDS : GlobT K mg "KINDS" ["number", "name", "any"])
    (b_len : mg "len" = none)
    (hC : ∀ os post, C os post → os.length = 1 ∧ r_pattern_place C_word_place (dEnds [] os post) (start0 N_pattern_place.length os)) : FnG P w K mg base (k + 1) f fd ["pattern"] (spOf K C) := by
  refine fn_ok F sc_pattern_place hC fun B cdv A outer s H E hgd hr => ?_
  have px := px_of (P := P) (w := w) (K := K) (mg := mg) (base := base) (outer := outer) (H := H) (E := E) hgd hr sc_pattern_place.nd
  exact (js_cons' (js_st 1 px rfl (by decide) (by first | exact .inl rfl | exact .inr rfl) (jo_lst js_nil))
  (js_cons' (js_for px PassesOwn.never (by decide) (ji_list (je_v (pv 0))) (jg_n 2 px rfl (by first | exact .inl rfl | exact .inr rfl)) (js_cons' (js_if (jt_eq px (JE.jx (JO.je (jo_ix (jx_v (pv 2)) (JE.jx je_int)))) (JE.jx je_str)) (js_cons' (js_app (pv 1) (JO.je (jo_tup (js_cons (JE.jx je_int) (js_cons (JE.jx (JO.je (jo_call px c_word_place hr rfl (js_cons (JE.jx (JO.je (jo_ix (jx_v (pv 2)) (JE.jx je_int)))) js_nil)))) js_nil)))))
  js_nil') (js_cons' (js_app (pv 1) (JO.je (jo_tup (js_cons (JE.jx je_int) (js_cons (JE.jx (JO.je (jo_tup (js_cons (JE.jx (JO.je (jo_tixG g_KINDS rfl (JE.jx (JO.je (jo_ix (jx_v (pv 2)) (JE.jx je_int))))))) (js_cons (JE.jx je_str) js_nil))))) js_nil)))))
  js_nil'))
  js_nil'))
  (js_cons' (js_ret (jo_tup (js_cons (JE.jx (JO.je (jo_len rfl b_len (jx_v (pv 0))))) (js_cons (JE.jx (je_v (pv 1))) js_nil))))
  js_nil')))
abbrev s_ordered : Stmt := topS 26
theorem sc_ordered : FnScope N_ordered ["patterns"] (defScope s_ordered) := ⟨rfl, rfl, rfl, by decide +kernel, rfl, by decide +kernel, by decide +kernel⟩
theorem ok_ordered {P : Program} {w : World} {K : PySem.W.Frag} {mg : Str → Option Value} {base : Heap} {f : Addr} {fd : FuncData} {k : Nat} {C C_pattern_place : Con} (F : FunA K "ordered" "ordered" s_ordered f fd)
    (c_pattern_place : Callee P w K mg base k "pattern_place" [] C_pattern_place)
    (b_list : mg "list" = none)
    (b_sorted : mg "sorted" = none)
    (hC : ∀ os post, C os post → os.length = 1 ∧ r_ordered C_pattern_place (dEnds [] os post) (start0 N_ordered.length os)) : FnG P w K mg base (k + 1) f fd ["patterns"] (spOf K C) := by
  refine fn_ok F sc_ordered hC fun B cdv A outer s H E hgd hr => ?_
  have px := px_of (P := P) (w := w) (K := K) (mg := mg) (base := base) (outer := outer) (H := H) (E := E) hgd hr sc_ordered.nd
  exact (js_cons' (js_st 1 px rfl (by decide) (by first | exact .inl rfl | exact .inr rfl) (jo_sorted px rfl b_sorted (JE.jx (JO.je (jo_lc px (ji_list (je_v (pv 0))) (own := [("pattern", 2)]) (blkOk_by (N := N_ordered) (sc := defScope s_ordered) (by decide +kernel)) rfl (fun _ _ _ _ _ => (jg_n 2 px.b rfl (by first | exact .inl rfl | exact .inr rfl))) (fun _ _ _ _ _ => jts_nil) (fun _ _ _ _ _ => (JO.je (jo_tup (js_cons (JE.jx (JO.je (jo_call px.b c_pattern_place hr rfl (js_cons (JE.jx (je_v (pv 2))) js_nil)))) (js_cons (JE.jx (JO.je (jo_list rfl b_list (jx_v (pv 2))))) js_nil))))))))))
  (js_cons' (js_ret (jo_lc px (ji_list (je_v (pv 1))) (own := [("place", 3), ("pattern", 2)]) (blkOk_by (N := N_ordered) (sc := defScope s_ordered) (by decide +kernel)) rfl (fun _ _ _ _ _ => (jg_t2 3 2 px.b rfl rfl (by first | exact .inl rfl | exact .inr rfl) (by first | exact .inl rfl | exact .inr rfl))) (fun _ _ _ _ _ => jts_nil) (fun _ _ _ _ _ => (je_v (pv 2)))))
  js_nil'))
abbrev s_looseness : Stmt := topS 28
theorem sc_looseness : FnScope N_looseness ["pattern"] (defScope s_looseness) := ⟨rfl, rfl, rfl, by decide +kernel, rfl, by decide +kernel, by decide +kernel⟩
theorem ok_looseness {P : Program} {w : World} {K : PySem.W.Frag} {mg : Str → Option Value} {base : Heap} {f : Addr} {fd : FuncData} {k : Nat} {C : Con} (F : FunA K "looseness" "looseness" s_looseness f fd)
    (b_int : mg "int" = none)
    (hC : ∀ os post, C os post → os.length = 1 ∧ r_looseness (dEnds [] os post) (start0 N_looseness.length os)) : FnG P w K mg base (k + 1) f fd ["pattern"] (spOf K C) := by
  refine fn_ok F sc_looseness hC fun B cdv A outer s H E hgd hr => ?_
  have px := px_of (P := P) (w := w) (K := K) (mg := mg) (base := base) (outer := outer) (H := H) (E := E) hgd hr sc_looseness.nd
  exact (js_cons' (js_st 1 px rfl (by decide) (by first | exact .inl rfl | exact .inr rfl) (jo_lst js_nil))
  (js_cons' (js_for px PassesOwn.never (by decide) (ji_list (je_v (pv 0))) (jg_n 2 px rfl (by first | exact .inl rfl | exact .inr rfl)) (js_cons' (js_if (jt_eq px (JE.jx (JO.je (jo_ix (jx_v (pv 2)) (JE.jx je_int)))) (JE.jx je_str)) (js_cons' (js_app (pv 1) je_int)
  js_nil') (js_cons' (js_app (pv 1) (JO.je (jo_add (JE.jx je_int) (JE.jx (JO.je (jo_int rfl b_int (JE.jx (JO.je (jo_eq px (JE.jx (JO.je (jo_ix (jx_v (pv 2)) (JE.jx je_int)))) (JE.jx je_str))))))))))
  js_nil'))
  js_nil'))
  (js_cons' (js_ret (jo_v (pv 1)))
  js_nil')))
abbrev s_narrowest : Stmt := topS 29
theorem sc_narrowest : FnScope N_narrowest ["line", "patterns"] (defScope s_narrowest) := ⟨rfl, rfl, rfl, by decide +kernel, rfl, by decide +kernel, by decide +kernel⟩
theorem ok_narrowest {P : Program} {w : World} {K : PySem.W.Frag} {mg : Str → Option Value} {base : Heap} {f : Addr} {fd : FuncData} {k : Nat} {C C_fits C_looseness : Con} (F : FunA K "narrowest" "narrowest" s_narrowest f fd)
    (c_fits : Callee P w K mg base k "fits" [] C_fits)
    (c_looseness : Callee P w K mg base k "looseness" [] C_looseness)
    (hC : ∀ os post, C os post → os.length = 2 ∧ r_narrowest C_fits C_looseness (dEnds [] os post) (start0 N_narrowest.length os)) : FnG P w K mg base (k + 1) f fd ["line", "patterns"] (spOf K C) := by
  refine fn_ok F sc_narrowest hC fun B cdv A outer s H E hgd hr => ?_
  have px := px_of (P := P) (w := w) (K := K) (mg := mg) (base := base) (outer := outer) (H := H) (E := E) hgd hr sc_narrowest.nd
  exact (js_cons' (js_st 2 px rfl (by decide) (by first | exact .inl rfl | exact .inr rfl) (JE.jo je_non))
  (js_cons' (js_for px PassesOwn.never (by decide) (ji_list (je_v (pv 1))) (jg_n 3 px rfl (by first | exact .inl rfl | exact .inr rfl)) (js_cons' (js_if (JW.jt (jw_and (jt_o (jo_call px c_fits hr rfl (js_cons (JE.jx (je_v (pv 3))) (js_cons (JE.jx (je_v (pv 0))) js_nil)))) (jw_and1 (JW.jt (jw_or (jt_isn (jx_v (pv 2)) (JE.jx je_non)) (jw_or1 (jt_ltD px (JE.jx (JO.je (jo_call px c_looseness hr rfl (js_cons (JE.jx (je_v (pv 3))) js_nil)))) (JE.jx (JO.je (jo_call px c_looseness hr rfl (js_cons (JE.jx (je_v (pv 2))) js_nil))))))))))) (js_cons' (js_st 2 px rfl (by decide) (by first | exact .inl rfl | exact .inr rfl) (JE.jo (je_v (pv 3))))
  js_nil') js_nil')
  js_nil'))
  (js_cons' (js_ret (jo_v (pv 2)))
  js_nil')))
abbrev s_falls_under : Stmt := topS 30
theorem sc_falls_under : FnScope N_falls_under ["line", "patterns"] (defScope s_falls_under) := ⟨rfl, rfl, rfl, by decide +kernel, rfl, by decide +kernel, by decide +kernel⟩
theorem ok_falls_under {P : Program} {w : World} {K : PySem.W.Frag} {mg : Str → Option Value} {base : Heap} {f : Addr} {fd : FuncData} {k : Nat} {C C_ordered C_narrowest : Con} (F : FunA K "falls_under" "falls_under" s_falls_under f fd)
    (c_ordered : Callee P w K mg base k "ordered" [] C_ordered)
    (c_narrowest : Callee P w K mg base k "narrowest" [] C_narrowest)
    (hC : ∀ os post, C os post → os.length = 2 ∧ r_falls_under C_ordered C_narrowest (dEnds [] os post) (start0 N_falls_under.length os)) : FnG P w K mg base (k + 1) f fd ["line", "patterns"] (spOf K C) := by
  refine fn_ok F sc_falls_under hC fun B cdv A outer s H E hgd hr => ?_
  have px := px_of (P := P) (w := w) (K := K) (mg := mg) (base := base) (outer := outer) (H := H) (E := E) hgd hr sc_falls_under.nd
  exact (js_cons' (js_ret (jo_call px c_narrowest hr rfl (js_cons (JE.jx (je_v (pv 0))) (js_cons (JE.jx (JO.je (jo_call px c_ordered hr rfl (js_cons (JE.jx (je_v (pv 1))) js_nil)))) js_nil))))
  js_nil')
abbrev s_show_part : Stmt := topS 33
theorem sc_show_part : FnScope N_show_part ["part"] (defScope s_show_part) := ⟨rfl, rfl, rfl, by decide +kernel, rfl, by decide +kernel, by decide +kernel⟩
theorem ok_show_part {P : Program} {w : World} {K : PySem.W.Frag} {mg : Str → Option Value} {base : Heap} {f : Addr} {fd : FuncData} {k : Nat} {C : Con} (F : FunA K "show_part" "show_part" s_show_part f fd)
    (g_MARKS : Glob K mg "MARKS" (.str "<="))
    (hC : ∀ os post, C os post → os.length = 1 ∧ r_show_part (dEnds [] os post) (start0 N_show_part.length os)) : FnG P w K mg base (k + 1) f fd ["part"] (spOf K C) := by
  refine fn_ok F sc_show_part hC fun B cdv A outer s H E hgd hr => ?_
  have px := px_of (P := P) (w := w) (K := K) (mg := mg) (base := base) (outer := outer) (H := H) (E := E) hgd hr sc_show_part.nd
  exact (js_cons' (js_if (jt_eq px (JE.jx (JO.je (jo_ix (jx_v (pv 0)) (JE.jx je_int)))) (JE.jx je_str)) (js_cons' (js_ret (jo_add (JE.jx (JO.je (jo_add (JE.jx je_str) (JE.jx (JO.je (jo_ix (jx_v (pv 0)) (JE.jx je_int))))))) (JE.jx je_str)))
  js_nil') js_nil')
  (js_cons' (js_if (jt_in px (JE.jx (JO.je (jo_ix (JE.jx (JO.je (jo_ix (jx_v (pv 0)) (JE.jx je_int)))) (JE.jx je_int)))) (JE.jx (je_gl g_MARKS rfl))) (js_cons' (js_ret (jo_add (JE.jx je_str) (JE.jx (JO.je (jo_ix (jx_v (pv 0)) (JE.jx je_int))))))
  js_nil') js_nil')
  (js_cons' (js_ret (jo_ix (jx_v (pv 0)) (JE.jx je_int)))
  js_nil')))
abbrev s_show_pattern : Stmt := topS 34
theorem sc_show_pattern : FnScope N_show_pattern ["pattern"] (defScope s_show_pattern) := ⟨rfl, rfl, rfl, by decide +kernel, rfl, by decide +kernel, by decide +kernel⟩
theorem ok_show_pattern {P : Program} {w : World} {K : PySem.W.Frag} {mg : Str → Option Value} {base : Heap} {f : Addr} {fd : FuncData} {k : Nat} {C C_show_part : Con} (F : FunA K "show_pattern" "show_pattern" s_show_pattern f fd)
    (c_show_part : Callee P w K mg base k "show_part" [] C_show_part)
    (hC : ∀ os post, C os post → os.length = 1 ∧ r_show_pattern C_show_part (dEnds [] os post) (start0 N_show_pattern.length os)) : FnG P w K mg base (k + 1) f fd ["pattern"] (spOf K C) := by
  refine fn_ok F sc_show_pattern hC fun B cdv A outer s H E hgd hr => ?_
  have px := px_of (P := P) (w := w) (K := K) (mg := mg) (base := base) (outer := outer) (H := H) (E := E) hgd hr sc_show_pattern.nd
  exact (js_cons' (js_ret (jo_join je_str (JE.jx (JO.je (jo_lc px (ji_list (je_v (pv 0))) (own := [("part", 1)]) (blkOk_by (N := N_show_pattern) (sc := defScope s_show_pattern) (by decide +kernel)) rfl (fun _ _ _ _ _ => (jg_n 1 px.b rfl (by first | exact .inl rfl | exact .inr rfl))) (fun _ _ _ _ _ => jts_nil) (fun _ _ _ _ _ => (JO.je (jo_call px.b c_show_part hr rfl (js_cons (JE.jx (je_v (pv 1))) js_nil)))))))))
  js_nil')
abbrev s_read_part : Stmt := topS 35
theorem sc_read_part : FnScope N_read_part ["text"] (defScope s_read_part) := ⟨rfl, rfl, rfl, by decide +kernel, rfl, by decide +kernel, by decide +kernel⟩
theorem ok_read_part {P : Program} {w : World} {K : PySem.W.Frag} {mg : Str → Option Value} {base : Heap} {f : Addr} {fd : FuncData} {k : Nat} {C : Con} (F : FunA K "read_part" "read_part" s_read_part f fd)
    (g_MARKS : Glob K mg "MARKS" (.str "<="))
    (g_KINDS : GlobT K mg "KINDS" ["number", "name", "any"])
    (hC : ∀ os post, C os post → os.length = 1 ∧ r_read_part (dEnds [] os post) (start0 N_read_part.length os)) : FnG P w K mg base (k + 1) f fd ["text"] (spOf K C) := by
  refine fn_ok F sc_read_part hC fun B cdv A outer s H E hgd hr => ?_
  have px := px_of (P := P) (w := w) (K := K) (mg := mg) (base := base) (outer := outer) (H := H) (E := E) hgd hr sc_read_part.nd
  exact (js_cons' (js_for px PassesOwn.never (by decide) (ji_tup (je_gl g_KINDS.glob rfl)) (jg_n 1 px rfl (by first | exact .inl rfl | exact .inr rfl)) (js_cons' (js_if (jt_eq px (jx_v (pv 0)) (JE.jx (JO.je (jo_add (JE.jx (JO.je (jo_add (JE.jx je_str) (jx_v (pv 1))))) (JE.jx je_str))))) (js_cons' (js_ret (jo_tup (js_cons (JE.jx je_str) (js_cons (JE.jx (je_v (pv 1))) js_nil))))
  js_nil') js_nil')
  js_nil'))
  (js_cons' (js_if (JW.jt (jw_and (jt_eq px (JE.jx (JO.je (jo_sl (jx_v (pv 0)) jp_0 (jp_1 je_int)))) (JE.jx je_str)) (jw_and (jt_ne px (JE.jx (JO.je (jo_sl (jx_v (pv 0)) (jp_1 je_int) (jp_1 je_int)))) (JE.jx je_str)) (jw_and1 (jt_in px (JE.jx (JO.je (jo_ix (jx_v (pv 0)) (JE.jx je_int)))) (JE.jx (je_gl g_MARKS rfl))))))) (js_cons' (js_ret (jo_tup (js_cons (JE.jx je_str) (js_cons (JE.jx (JO.je (jo_sl (jx_v (pv 0)) (jp_1 je_int) jp_0))) js_nil))))
  js_nil') js_nil')
  (js_cons' (js_if (JW.jt (jw_or (jt_eq px (jx_v (pv 0)) (JE.jx je_str)) (jw_or1 (jt_in px (JE.jx (JO.je (jo_ix (jx_v (pv 0)) (JE.jx je_int)))) (JE.jx (je_gl g_MARKS rfl)))))) (js_cons' js_never
  js_nil') js_nil')
  (js_cons' (js_ret (jo_tup (js_cons (JE.jx je_str) (js_cons (JE.jx (je_v (pv 0))) js_nil))))
  js_nil'))))
abbrev s_read_pattern : Stmt := topS 36
theorem sc_read_pattern : FnScope N_read_pattern ["text"] (defScope s_read_pattern) := ⟨rfl, rfl, rfl, by decide +kernel, rfl, by decide +kernel, by decide +kernel⟩
theorem ok_read_pattern {P : Program} {w : World} {K : PySem.W.Frag} {mg : Str → Option Value} {base : Heap} {f : Addr} {fd : FuncData} {k : Nat} {C C_is_pattern C_read_part : Con} (F : FunA K "read_pattern" "read_pattern" s_read_pattern f fd)
    (c_is_pattern : Callee P w K mg base k "is_pattern" [] C_is_pattern)
    (c_read_part : Callee P w K mg base k "read_part" [] C_read_part)
    (hC : ∀ os post, C os post → os.length = 1 ∧ r_read_pattern C_is_pattern C_read_part (dEnds [] os post) (start0 N_read_pattern.length os)) : FnG P w K mg base (k + 1) f fd ["text"] (spOf K C) := by
  refine fn_ok F sc_read_pattern hC fun B cdv A outer s H E hgd hr => ?_
  have px := px_of (P := P) (w := w) (K := K) (mg := mg) (base := base) (outer := outer) (H := H) (E := E) hgd hr sc_read_pattern.nd
  exact (js_cons' (js_setLc px rfl (by decide) rfl (sw_true rfl rfl rfl (by decide +kernel)) (ji_list (JO.je (jo_split (je_v (pv 0)) (JE.jx je_str)))) (own := [("part", 2)]) (blkOk_by (N := N_read_pattern) (sc := defScope s_read_pattern) (by decide +kernel)) rfl (fun _ _ _ _ _ => (jg_n 2 px.b rfl (by first | exact .inl rfl | exact .inr rfl))) (fun _ _ _ _ _ => jts_nil) (fun _ _ _ _ _ => (JO.je (jo_call px.b c_read_part hr rfl (js_cons (JE.jx (je_v (pv 2))) js_nil)))))
  (js_cons' (js_if (jt_not (jt_o (jo_call px c_is_pattern hr rfl (js_cons (JE.jx (je_v (pv 1))) js_nil)))) (js_cons' js_never
  js_nil') js_nil')
  (js_cons' (js_ret (jo_v (pv 1)))
  js_nil')))
abbrev s__law_deck : Stmt := topS 38
theorem sc__law_deck : FnScope N__law_deck ["cell", "turn"] (defScope s__law_deck) := ⟨rfl, rfl, rfl, by decide +kernel, rfl, by decide +kernel, by decide +kernel⟩
theorem ok__law_deck {P : Program} {w : World} {K : PySem.W.Frag} {mg : Str → Option Value} {base : Heap} {f : Addr} {fd : FuncData} {k : Nat} {C : Con} (F : FunA K "_law_deck" "_law_deck" s__law_deck f fd)
    (hC : ∀ os post, C os post → os.length = 2 ∧ r__law_deck (dEnds [] os post) (start0 N__law_deck.length os)) : FnG P w K mg base (k + 1) f fd ["cell", "turn"] (spOf K C) := by
  refine fn_ok F sc__law_deck hC fun B cdv A outer s H E hgd hr => ?_
  have px := px_of (P := P) (w := w) (K := K) (mg := mg) (base := base) (outer := outer) (H := H) (E := E) hgd hr sc__law_deck.nd
  exact (js_cons' (js_if (jt_ge (jx_v (pv 0)) (JE.jx (JO.je (jo_pow (JE.jx je_int) (JE.jx je_int))))) (js_cons' (js_ret (jo_lst (js_cons (JE.jx (JO.je (jo_sub (jx_v (pv 0)) (JE.jx (JO.je (jo_pow (JE.jx je_int) (JE.jx je_int))))))) (js_cons (JE.jx (JO.je (jo_mod (jx_v (pv 0)) (JE.jx je_int)))) (js_cons (JE.jx (je_v (pv 1))) js_nil)))))
  js_nil') js_nil')
  (js_cons' (js_ret (jo_lst (js_cons (JE.jx je_int) (js_cons (JE.jx (JO.je (jo_mod (jx_v (pv 0)) (JE.jx je_int)))) (js_cons (JE.jx (je_v (pv 1))) js_nil)))))
  js_nil'))
abbrev s__law_pick : Stmt := topS 39
theorem sc__law_pick : FnScope N__law_pick ["deck", "many"] (defScope s__law_pick) := ⟨rfl, rfl, rfl, by decide +kernel, rfl, by decide +kernel, by decide +kernel⟩
theorem ok__law_pick {P : Program} {w : World} {K : PySem.W.Frag} {mg : Str → Option Value} {base : Heap} {f : Addr} {fd : FuncData} {k : Nat} {C : Con} (F : FunA K "_law_pick" "_law_pick" s__law_pick f fd)
    (hC : ∀ os post, C os post → os.length = 2 ∧ r__law_pick (dEnds [0] os post) (start0 N__law_pick.length os)) : FnG P w K mg base (k + 1) f fd ["deck", "many"] (spOf K C) := by
  refine fn_ok F sc__law_pick hC fun B cdv A outer s H E hgd hr => ?_
  have px := px_of (P := P) (w := w) (K := K) (mg := mg) (base := base) (outer := outer) (H := H) (E := E) hgd hr sc__law_pick.nd
  exact (js_cons' (js_if (jt_gt (JE.jx (JO.je (jo_ix (jx_v (pv 0)) (JE.jx je_int)))) (JE.jx je_int)) (js_cons' (js_st 2 px rfl (by decide) (by first | exact .inl rfl | exact .inr rfl) (jo_mod (JE.jx (JO.je (jo_ix (jx_v (pv 0)) (JE.jx je_int)))) (jx_v (pv 1))))
  (js_cons' (js_put (pv 0) (JO.je (jo_div (JE.jx (JO.je (jo_ix (jx_v (pv 0)) (JE.jx je_int)))) (jx_v (pv 1)))) (JE.jx je_int))
  (js_cons' (js_ret (jo_v (pv 2)))
  js_nil'))) js_nil')
  (js_cons' (js_put (pv 0) (JO.je (jo_add (JE.jx (JO.je (jo_ix (jx_v (pv 0)) (JE.jx je_int)))) (JE.jx je_int))) (JE.jx je_int))
  (js_cons' (js_st 3 px rfl (by decide) (by first | exact .inl rfl | exact .inr rfl) (jo_mod (JE.jx (JO.je (jo_pow (JE.jx (JO.je (jo_add (JE.jx (JO.je (jo_ix (jx_v (pv 0)) (JE.jx je_int)))) (JE.jx (JO.je (jo_mul (JE.jx je_int) (JE.jx (JO.je (jo_ix (jx_v (pv 0)) (JE.jx je_int)))))))))) (JE.jx je_int)))) (JE.jx je_int)))
  (js_cons' (js_st 2 px rfl (by decide) (by first | exact .inl rfl | exact .inr rfl) (jo_div (JE.jx (JO.je (jo_mod (JE.jx (JO.je (jo_pow (JE.jx (JO.je (jo_add (jx_v (pv 3)) (JE.jx (JO.je (jo_mul (JE.jx je_int) (JE.jx (JO.je (jo_ix (jx_v (pv 0)) (JE.jx je_int)))))))))) (JE.jx je_int)))) (JE.jx je_int)))) (JE.jx je_int)))
  (js_cons' (js_if (jt_gt (jx_v (pv 1)) (JE.jx je_int)) (js_cons' (js_ret (jo_mod (JE.jx (JO.je (jo_add (JE.jx (JO.je (jo_mul (jx_v (pv 2)) (JE.jx je_int)))) (jx_v (pv 3))))) (jx_v (pv 1))))
  js_nil') js_nil')
  (js_cons' (js_ret (jo_mod (jx_v (pv 2)) (jx_v (pv 1))))
  js_nil'))))))
abbrev s__law_kind : Stmt := topS 40
theorem sc__law_kind : FnScope N__law_kind ["word"] (defScope s__law_kind) := ⟨rfl, rfl, rfl, by decide +kernel, rfl, by decide +kernel, by decide +kernel⟩
theorem ok__law_kind {P : Program} {w : World} {K : PySem.W.Frag} {mg : Str → Option Value} {base : Heap} {f : Addr} {fd : FuncData} {k : Nat} {C : Con} (F : FunA K "_law_kind" "_law_kind" s__law_kind f fd)
    (hC : ∀ os post, C os post → os.length = 1 ∧ r__law_kind (dEnds [] os post) (start0 N__law_kind.length os)) : FnG P w K mg base (k + 1) f fd ["word"] (spOf K C) := by
  refine fn_ok F sc__law_kind hC fun B cdv A outer s H E hgd hr => ?_
  have px := px_of (P := P) (w := w) (K := K) (mg := mg) (base := base) (outer := outer) (H := H) (E := E) hgd hr sc__law_kind.nd
  exact (js_cons' (js_st 1 px rfl (by decide) (by first | exact .inl rfl | exact .inr rfl) (jo_if (jt_eq px (JE.jx (JO.je (jo_sl (jx_v (pv 0)) jp_0 (jp_1 je_int)))) (JE.jx je_str)) (jo_sl (jx_v (pv 0)) (jp_1 je_int) jp_0) (JE.jo (je_v (pv 0)))))
  (js_cons' (js_if (JW.jt (jw_and (jt_ne px (jx_v (pv 1)) (JE.jx je_str)) (jw_and1 (jt_eq px (JE.jx (JO.je (jo_lc px (ji_str (je_v (pv 1))) (own := [("sign", 2)]) (blkOk_by (N := N__law_kind) (sc := defScope s__law_kind) (by decide +kernel)) rfl (fun _ _ _ _ _ => (jg_n 2 px.b rfl (by first | exact .inl rfl | exact .inr rfl))) (fun _ _ _ _ _ => (jts_one (jt_not (jt_lele (JE.jx je_str) (jx_v (pv 2)) (JE.jx je_str))))) (fun _ _ _ _ _ => (je_v (pv 2)))))) (JE.jx (JO.je (jo_lst js_nil))))))) (js_cons' (js_ret (JE.jo je_str))
  js_nil') js_nil')
  (js_cons' (js_ret (jo_if (jt_eq px (JE.jx (JO.je (jo_lc px (ji_str (je_v (pv 0))) (own := [("sign", 2)]) (blkOk_by (N := N__law_kind) (sc := defScope s__law_kind) (by decide +kernel)) rfl (fun _ _ _ _ _ => (jg_n 2 px.b rfl (by first | exact .inl rfl | exact .inr rfl))) (fun _ _ _ _ _ => (jts_one (jt_not (jt_lele (JE.jx je_str) (jx_v (pv 2)) (JE.jx je_str))))) (fun _ _ _ _ _ => (je_v (pv 2)))))) (JE.jx (JO.je (jo_lst js_nil)))) (JE.jo je_str) (JE.jo je_str)))
  js_nil')))
abbrev s__law_long : Stmt := topS 41
theorem sc__law_long : FnScope N__law_long ["deck"] (defScope s__law_long) := ⟨rfl, rfl, rfl, by decide +kernel, rfl, by decide +kernel, by decide +kernel⟩
theorem ok__law_long {P : Program} {w : World} {K : PySem.W.Frag} {mg : Str → Option Value} {base : Heap} {f : Addr} {fd : FuncData} {k : Nat} {C C__law_pick : Con} (F : FunA K "_law_long" "_law_long" s__law_long f fd)
    (c__law_pick : Callee P w K mg base k "_law_pick" [] C__law_pick)
    (b_int : mg "int" = none)
    (b_range : mg "range" = none)
    (b_len : mg "len" = none)
    (hC : ∀ os post, C os post → os.length = 1 ∧ r__law_long C__law_pick (dEnds [0] os post) (start0 N__law_long.length os)) : FnG P w K mg base (k + 1) f fd ["deck"] (spOf K C) := by
  refine fn_ok F sc__law_long hC fun B cdv A outer s H E hgd hr => ?_
  have px := px_of (P := P) (w := w) (K := K) (mg := mg) (base := base) (outer := outer) (H := H) (E := E) hgd hr sc__law_long.nd
  exact (js_cons' (js_st 1 px rfl (by decide) (by first | exact .inl rfl | exact .inr rfl) (jo_ix (JE.jx (JO.je (jo_lst (js_cons (JE.jx je_str) (js_cons (JE.jx je_str) (js_cons (JE.jx je_str) (js_cons (JE.jx je_str) js_nil))))))) (JE.jx (JO.je (jo_call px c__law_pick hr rfl (js_cons (jx_v (pv 0)) (js_cons (JE.jx je_int) js_nil)))))))
  (js_cons' (js_st 2 px rfl (by decide) (by first | exact .inl rfl | exact .inr rfl) (jo_ix (JE.jx (JO.je (jo_lst (js_cons (JE.jx (JO.je (jo_add (JE.jx je_int) (JE.jx (JO.je (jo_call px c__law_pick hr rfl (js_cons (jx_v (pv 0)) (js_cons (JE.jx je_int) js_nil)))))))) (js_cons (JE.jx je_int) (js_cons (JE.jx (JO.je (jo_add (JE.jx je_int) (JE.jx (JO.je (jo_call px c__law_pick hr rfl (js_cons (jx_v (pv 0)) (js_cons (JE.jx je_int) js_nil)))))))) js_nil)))))) (JE.jx (JO.je (jo_call px c__law_pick hr rfl (js_cons (jx_v (pv 0)) (js_cons (JE.jx je_int) js_nil)))))))
  (js_cons' (js_setLc px rfl (by decide) rfl (sw_true rfl rfl rfl (by decide +kernel)) (ji_rg1 rfl b_range (jx_v (pv 2))) (own := [("k", 4)]) (blkOk_by (N := N__law_long) (sc := defScope s__law_long) (by decide +kernel)) rfl (fun _ _ _ _ _ => (jg_n 4 px.b rfl (by first | exact .inl rfl | exact .inr rfl))) (fun _ _ _ _ _ => jts_nil) (fun _ _ _ _ _ => (JO.je (jo_ix (jx_v (pv 1)) (JE.jx (JO.je (jo_call px.b c__law_pick hr rfl (js_cons (jx_v (pv 0)) (js_cons (JE.jx (JO.je (jo_len rfl b_len (jx_v (pv 1))))) js_nil)))))))))
  (js_cons' (js_if (jt_eq px (JE.jx (JO.je (jo_call px c__law_pick hr rfl (js_cons (jx_v (pv 0)) (js_cons (JE.jx je_int) js_nil))))) (JE.jx je_int)) (js_cons' (js_put (pv 3) (JO.je (jo_ix (JE.jx je_str) (JE.jx (JO.je (jo_call px c__law_pick hr rfl (js_cons (jx_v (pv 0)) (js_cons (JE.jx je_int) js_nil))))))) (JE.jx (JO.je (jo_call px c__law_pick hr rfl (js_cons (jx_v (pv 0)) (js_cons (JE.jx (je_v (pv 2))) js_nil))))))
  js_nil') js_nil')
  (js_cons' (js_ret (jo_add (JE.jx (JO.je (jo_ix (JE.jx (JO.je (jo_lst (js_cons (JE.jx je_str) (js_cons (JE.jx je_str) js_nil))))) (JE.jx (JO.je (jo_int rfl b_int (JE.jx (JO.je (jo_eq px (JE.jx (JO.je (jo_call px c__law_pick hr rfl (js_cons (jx_v (pv 0)) (js_cons (JE.jx je_int) js_nil))))) (JE.jx je_int)))))))))) (JE.jx (JO.je (jo_join je_str (jx_v (pv 3)))))))
  js_nil')))))
abbrev s__law_other : Stmt := topS 42
theorem sc__law_other : FnScope N__law_other ["deck", "word"] (defScope s__law_other) := ⟨rfl, rfl, rfl, by decide +kernel, rfl, by decide +kernel, by decide +kernel⟩
theorem ok__law_other {P : Program} {w : World} {K : PySem.W.Frag} {mg : Str → Option Value} {base : Heap} {f : Addr} {fd : FuncData} {k : Nat} {C C__law_pick : Con} (F : FunA K "_law_other" "_law_other" s__law_other f fd)
    (c__law_pick : Callee P w K mg base k "_law_pick" [] C__law_pick)
    (b_len : mg "len" = none)
    (hC : ∀ os post, C os post → os.length = 2 ∧ r__law_other C__law_pick (dEnds [0] os post) (start0 N__law_other.length os)) : FnG P w K mg base (k + 1) f fd ["deck", "word"] (spOf K C) := by
  refine fn_ok F sc__law_other hC fun B cdv A outer s H E hgd hr => ?_
  have px := px_of (P := P) (w := w) (K := K) (mg := mg) (base := base) (outer := outer) (H := H) (E := E) hgd hr sc__law_other.nd
  exact (js_cons' (js_st 2 px rfl (by decide) (by first | exact .inl rfl | exact .inr rfl) (jo_call px c__law_pick hr rfl (js_cons (jx_v (pv 0)) (js_cons (JE.jx (JO.je (jo_len rfl b_len (jx_v (pv 1))))) js_nil))))
  (js_cons' (js_st 3 px rfl (by decide) (by first | exact .inl rfl | exact .inr rfl) (JE.jo je_str))
  (js_cons' (js_for px PassesOwn.never (by decide) (ji_tup (JO.je (jo_tup (js_cons (JE.jx je_str) (js_cons (JE.jx je_str) js_nil))))) (jg_n 4 px rfl (by first | exact .inl rfl | exact .inr rfl)) (js_cons' (js_if (jt_in px (JE.jx (JO.je (jo_ix (jx_v (pv 1)) (jx_v (pv 2))))) (jx_v (pv 4))) (js_cons' (js_st 3 px rfl (by decide) (by first | exact .inl rfl | exact .inr rfl) (jo_ix (jx_v (pv 4)) (JE.jx (JO.je (jo_mod (JE.jx (JO.je (jo_add (JE.jx (JO.je (jo_sidx (je_v (pv 4)) (JE.jx (JO.je (jo_ix (jx_v (pv 1)) (jx_v (pv 2)))))))) (JE.jx je_int)))) (JE.jx (JO.je (jo_len rfl b_len (jx_v (pv 4))))))))))
  js_nil') js_nil')
  js_nil'))
  (js_cons' (js_ret (jo_add (JE.jx (JO.je (jo_add (JE.jx (JO.je (jo_sl (jx_v (pv 1)) jp_0 (jp_1 (je_v (pv 2)))))) (jx_v (pv 3))))) (JE.jx (JO.je (jo_sl (jx_v (pv 1)) (jp_1 (JO.je (jo_add (jx_v (pv 2)) (JE.jx je_int)))) jp_0)))))
  js_nil'))))
abbrev s_law : Stmt := topS 43
theorem sc_law : FnScope N_law ["script"] (defScope s_law) := ⟨rfl, rfl, rfl, by decide +kernel, rfl, by decide +kernel, by decide +kernel⟩
theorem ok_law {P : Program} {w : World} {K : PySem.W.Frag} {mg : Str → Option Value} {base : Heap} {f : Addr} {fd : FuncData} {k : Nat} {C C_in_order C_show_pattern C_read_pattern C_falls_under C_fillings C_filled C_fits C__law_kind C_joined C_is_line C__law_other C__law_pick C_kind_of C__law_long C__law_deck : Con} (F : FunA K "law" "law" s_law f fd)
    (c_in_order : Callee P w K mg base k "in_order" [] C_in_order)
    (c_show_pattern : Callee P w K mg base k "show_pattern" [] C_show_pattern)
    (c_read_pattern : Callee P w K mg base k "read_pattern" [] C_read_pattern)
    (c_falls_under : Callee P w K mg base k "falls_under" [] C_falls_under)
    (c_fillings : Callee P w K mg base k "fillings" [] C_fillings)
    (c_filled : Callee P w K mg base k "filled" [] C_filled)
    (c_fits : Callee P w K mg base k "fits" [] C_fits)
    (c__law_kind : Callee P w K mg base k "_law_kind" [] C__law_kind)
    (c_joined : Callee P w K mg base k "joined" [] C_joined)
    (c_is_line : Callee P w K mg base k "is_line" [] C_is_line)
    (c__law_other : Callee P w K mg base k "_law_other" [] C__law_other)
    (c__law_pick : Callee P w K mg base k "_law_pick" [] C__law_pick)
    (c_kind_of : Callee P w K mg base k "kind_of" [] C_kind_of)
    (c__law_long : Callee P w K mg base k "_law_long" [] C__law_long)
    (c__law_deck : Callee P w K mg base k "_law_deck" [] C__law_deck)
    (b_int : mg "int" = none)
    (b_len : mg "len" = none)
    (b_list : mg "list" = none)
    (b_range : mg "range" = none)
    (hC : ∀ os post, C os post → os.length = 1 ∧ r_law C_in_order C_show_pattern C_read_pattern C_falls_under C_fillings C_filled C_fits C__law_kind C_joined C_is_line C__law_other C__law_pick C_kind_of C__law_long C__law_deck (dEnds [] os post) (start0 N_law.length os)) : FnG P w K mg base (k + 1) f fd ["script"] (spOf K C) := by
  refine fn_ok F sc_law hC fun B cdv A outer s H E hgd hr => ?_
  have px := px_of (P := P) (w := w) (K := K) (mg := mg) (base := base) (outer := outer) (H := H) (E := E) hgd hr sc_law.nd
  exact (js_cons' (js_for px PassesOwn.never (by decide) (ji_list (JO.je (jo_sl (JE.jx (JO.je (jo_add (jx_v (pv 0)) (JE.jx (JO.je (jo_lst (js_cons (JE.jx je_int) js_nil))))))) jp_0 (jp_1 je_int)))) (jg_n 1 px rfl (by first | exact .inl rfl | exact .inr rfl)) (js_cons' (js_st 2 px rfl (by decide) (by first | exact .inl rfl | exact .inr rfl) (jo_call px c__law_deck hr rfl (js_cons (JE.jx (je_v (pv 1))) (js_cons (JE.jx je_int) js_nil))))
  (js_cons' (js_setLc px rfl (by decide) rfl (sw_true rfl rfl rfl (by decide +kernel)) (ji_rg1 rfl b_range (JE.jx (JO.je (jo_add (JE.jx je_int) (JE.jx (JO.je (jo_call px c__law_pick hr rfl (js_cons (jx_v (pv 2)) (js_cons (JE.jx je_int) js_nil))))))))) (own := [("k", 16)]) (blkOk_by (N := N_law) (sc := defScope s_law) (by decide +kernel)) rfl (fun _ _ _ _ _ => (jg_n 16 px.b rfl (by first | exact .inl rfl | exact .inr rfl))) (fun _ _ _ _ _ => jts_nil) (fun _ _ _ _ _ => (JO.je (jo_call px.b c__law_long hr rfl (js_cons (jx_v (pv 2)) js_nil)))))
  (js_cons' (js_if (jt_ne px (JE.jx (JO.je (jo_lc px (ji_list (je_v (pv 3))) (own := [("word", 17)]) (blkOk_by (N := N_law) (sc := defScope s_law) (by decide +kernel)) rfl (fun _ _ _ _ _ => (jg_n 17 px.b rfl (by first | exact .inl rfl | exact .inr rfl))) (fun _ _ _ _ _ => (jts_one (jt_ne px.b (JE.jx (JO.je (jo_call px.b c_kind_of hr rfl (js_cons (JE.jx (je_v (pv 17))) js_nil)))) (JE.jx (JO.je (jo_call px.b c__law_kind hr rfl (js_cons (JE.jx (je_v (pv 17))) js_nil))))))) (fun _ _ _ _ _ => (je_v (pv 17)))))) (JE.jx (JO.je (jo_lst js_nil)))) (js_cons' (js_ret (JE.jo je_bl))
  js_nil') js_nil')
  (js_cons' (js_st 4 px rfl (by decide) (by first | exact .inl rfl | exact .inr rfl) (jo_join je_str (jx_v (pv 3))))
  (js_cons' (js_st 5 px rfl (by decide) (by first | exact .inl rfl | exact .inr rfl) (jo_call px c__law_pick hr rfl (js_cons (jx_v (pv 2)) (js_cons (JE.jx (JO.je (jo_len rfl b_len (jx_v (pv 3))))) js_nil))))
  (js_cons' (js_st 6 px rfl (by decide) (by first | exact .inl rfl | exact .inr rfl) (jo_list rfl b_list (jx_v (pv 3))))
  (js_cons' (js_put (pv 6) (JO.je (jo_call px c__law_other hr rfl (js_cons (jx_v (pv 2)) (js_cons (JE.jx (JO.je (jo_ix (jx_v (pv 3)) (jx_v (pv 5))))) js_nil)))) (jx_v (pv 5)))
  (js_cons' (js_st 7 px rfl (by decide) (by first | exact .inl rfl | exact .inr rfl) (jo_join je_str (jx_v (pv 6))))
  (js_cons' (js_if (JW.jt (jw_or (jt_notB (JE.jx (JO.je (jo_call px c_is_line hr rfl (js_cons (JE.jx (je_v (pv 4))) js_nil)))) (JE.jx je_bl)) (jw_or (jt_notB (JE.jx (JO.je (jo_call px c_is_line hr rfl (js_cons (JE.jx (je_v (pv 7))) js_nil)))) (JE.jx je_bl)) (jw_or1 (jt_eq px (jx_v (pv 4)) (jx_v (pv 7))))))) (js_cons' (js_ret (JE.jo je_bl))
  js_nil') js_nil')
  (js_cons' (js_setLc px rfl (by decide) rfl (sw_true rfl rfl rfl (by decide +kernel)) (ji_list (je_v (pv 3))) (own := [("word", 17)]) (blkOk_by (N := N_law) (sc := defScope s_law) (by decide +kernel)) rfl (fun _ _ _ _ _ => (jg_n 17 px.b rfl (by first | exact .inl rfl | exact .inr rfl))) (fun _ _ _ _ _ => jts_nil) (fun _ _ _ _ _ => (JO.je (jo_tup (js_cons (JE.jx je_str) (js_cons (JE.jx (je_v (pv 17))) js_nil))))))
  (js_cons' (js_setLc px rfl (by decide) rfl (sw_true rfl rfl rfl (by decide +kernel)) (ji_list (je_v (pv 6))) (own := [("word", 17)]) (blkOk_by (N := N_law) (sc := defScope s_law) (by decide +kernel)) rfl (fun _ _ _ _ _ => (jg_n 17 px.b rfl (by first | exact .inl rfl | exact .inr rfl))) (fun _ _ _ _ _ => jts_nil) (fun _ _ _ _ _ => (JO.je (jo_tup (js_cons (JE.jx je_str) (js_cons (JE.jx (je_v (pv 17))) js_nil))))))
  (js_cons' (js_st 10 px rfl (by decide) (by first | exact .inl rfl | exact .inr rfl) (jo_call px c_joined hr rfl (js_cons (JE.jx (JO.je (jo_lst (js_cons (JE.jx (je_v (pv 8))) (js_cons (JE.jx (je_v (pv 9))) js_nil))))) js_nil)))
  (js_cons' (js_st 11 px rfl (by decide) (by first | exact .inl rfl | exact .inr rfl) (jo_lst (js_cons (JE.jx (JO.je (jo_call px c__law_kind hr rfl (js_cons (JE.jx (JO.je (jo_ix (jx_v (pv 3)) (jx_v (pv 5))))) js_nil)))) (js_cons (JE.jx (JO.je (jo_call px c__law_kind hr rfl (js_cons (JE.jx (JO.je (jo_ix (jx_v (pv 6)) (jx_v (pv 5))))) js_nil)))) js_nil))))
  (js_cons' (js_st 12 px rfl (by decide) (by first | exact .inl rfl | exact .inr rfl) (jo_if (JW.jt (jw_or (jt_ne px (JE.jx (JO.je (jo_ix (jx_v (pv 11)) (JE.jx je_int)))) (JE.jx (JO.je (jo_ix (jx_v (pv 11)) (JE.jx je_int))))) (jw_or1 (jt_eq px (JE.jx (JO.je (jo_ix (jx_v (pv 11)) (JE.jx je_int)))) (JE.jx je_str))))) (JE.jo je_str) (jo_ix (jx_v (pv 11)) (JE.jx je_int))))
  (js_cons' (js_if (jt_ne px (jx_v (pv 10)) (JE.jx (JO.je (jo_add (JE.jx (JO.je (jo_add (JE.jx (JO.je (jo_sl (jx_v (pv 8)) jp_0 (jp_1 (je_v (pv 5)))))) (JE.jx (JO.je (jo_lst (js_cons (JE.jx (JO.je (jo_tup (js_cons (JE.jx je_str) (js_cons (JE.jx (je_v (pv 12))) js_nil))))) js_nil))))))) (JE.jx (JO.je (jo_sl (jx_v (pv 8)) (jp_1 (JO.je (jo_add (jx_v (pv 5)) (JE.jx je_int)))) jp_0))))))) (js_cons' (js_ret (JE.jo je_bl))
  js_nil') js_nil')
  (js_cons' (js_if (JW.jt (jw_or (jt_o (jo_call px c_fits hr rfl (js_cons (JE.jx (je_v (pv 8))) (js_cons (JE.jx (je_v (pv 7))) js_nil)))) (jw_or1 (jt_o (jo_call px c_fits hr rfl (js_cons (JE.jx (je_v (pv 9))) (js_cons (JE.jx (je_v (pv 4))) js_nil))))))) (js_cons' (js_ret (JE.jo je_bl))
  js_nil') js_nil')
  (js_cons' (js_for px PassesOwn.never (by decide) (ji_tup (JO.je (jo_tup (js_cons (JE.jx (JO.je (jo_tup (js_cons (JE.jx (je_v (pv 4))) (js_cons (JE.jx (JO.je (jo_ix (jx_v (pv 3)) (jx_v (pv 5))))) js_nil))))) (js_cons (JE.jx (JO.je (jo_tup (js_cons (JE.jx (je_v (pv 7))) (js_cons (JE.jx (JO.je (jo_ix (jx_v (pv 6)) (jx_v (pv 5))))) js_nil))))) js_nil))))) (jg_t2 13 14 px rfl rfl (by first | exact .inl rfl | exact .inr rfl) (by first | exact .inl rfl | exact .inr rfl)) (js_cons' (js_if (JW.jt (jw_or (jt_ne px (JE.jx (JO.je (jo_call px c_fillings hr rfl (js_cons (JE.jx (je_v (pv 10))) (js_cons (JE.jx (je_v (pv 13))) js_nil))))) (JE.jx (JO.je (jo_lst (js_cons (JE.jx (je_v (pv 14))) js_nil))))) (jw_or1 (jt_ne px (JE.jx (JO.je (jo_call px c_filled hr rfl (js_cons (JE.jx (je_v (pv 10))) (js_cons (JE.jx (JO.je (jo_lst (js_cons (JE.jx (je_v (pv 14))) js_nil)))) js_nil))))) (jx_v (pv 13)))))) (js_cons' (js_ret (JE.jo je_bl))
  js_nil') js_nil')
  (js_cons' (js_if (jt_ne px (JE.jx (JO.je (jo_call px c_falls_under hr rfl (js_cons (JE.jx (je_v (pv 13))) (js_cons (JE.jx (JO.je (jo_lst (js_cons (JE.jx (je_v (pv 10))) (js_cons (JE.jx (je_v (pv 9))) (js_cons (JE.jx (je_v (pv 8))) js_nil)))))) js_nil))))) (JE.jx (JO.je (jo_lc px (ji_list (JO.je (jo_split (je_v (pv 13)) (JE.jx je_str)))) (own := [("word", 17)]) (blkOk_by (N := N_law) (sc := defScope s_law) (by decide +kernel)) rfl (fun _ _ _ _ _ => (jg_n 17 px.b rfl (by first | exact .inl rfl | exact .inr rfl))) (fun _ _ _ _ _ => jts_nil) (fun _ _ _ _ _ => (JO.je (jo_tup (js_cons (JE.jx je_str) (js_cons (JE.jx (je_v (pv 17))) js_nil))))))))) (js_cons' (js_ret (JE.jo je_bl))
  js_nil') js_nil')
  js_nil')))
  (js_cons' (js_if (JW.jt (jw_or (jt_ne px (JE.jx (JO.je (jo_call px c_read_pattern hr rfl (js_cons (JE.jx (JO.je (jo_call px c_show_pattern hr rfl (js_cons (JE.jx (je_v (pv 10))) js_nil)))) js_nil)))) (jx_v (pv 10))) (jw_or1 (jt_ne px (JE.jx (JO.je (jo_call px c_read_pattern hr rfl (js_cons (JE.jx (JO.je (jo_call px c_show_pattern hr rfl (js_cons (JE.jx (je_v (pv 8))) js_nil)))) js_nil)))) (jx_v (pv 8)))))) (js_cons' (js_ret (JE.jo je_bl))
  js_nil') js_nil')
  (js_cons' (js_st 15 px rfl (by decide) (by first | exact .inl rfl | exact .inr rfl) (jo_lst (js_cons (JE.jx (JO.je (jo_tup (js_cons (JE.jx (JO.je (jo_len rfl b_len (JE.jx (JO.je (jo_ix (jx_v (pv 3)) (jx_v (pv 5)))))))) (js_cons (JE.jx (JO.je (jo_ix (jx_v (pv 3)) (jx_v (pv 5))))) js_nil))))) (js_cons (JE.jx (JO.je (jo_tup (js_cons (JE.jx (JO.je (jo_len rfl b_len (JE.jx (JO.je (jo_ix (jx_v (pv 6)) (jx_v (pv 5)))))))) (js_cons (JE.jx (JO.je (jo_ix (jx_v (pv 6)) (jx_v (pv 5))))) js_nil))))) js_nil))))
  (js_cons' (js_if (jt_ne px (JE.jx (JO.je (jo_call px c_in_order hr rfl (js_cons (JE.jx (JO.je (jo_lst (js_cons (JE.jx (je_v (pv 4))) (js_cons (JE.jx (je_v (pv 7))) js_nil))))) js_nil)))) (JE.jx (JO.je (jo_ix (JE.jx (JO.je (jo_lst (js_cons (JE.jx (JO.je (jo_lst (js_cons (JE.jx (je_v (pv 4))) (js_cons (JE.jx (je_v (pv 7))) js_nil))))) (js_cons (JE.jx (JO.je (jo_lst (js_cons (JE.jx (je_v (pv 7))) (js_cons (JE.jx (je_v (pv 4))) js_nil))))) js_nil))))) (JE.jx (JO.je (jo_int rfl b_int (JE.jx (JO.je (jo_ltD px (JE.jx (JO.je (jo_ix (jx_v (pv 15)) (JE.jx je_int)))) (JE.jx (JO.je (jo_ix (jx_v (pv 15)) (JE.jx je_int)))))))))))))) (js_cons' (js_ret (JE.jo je_bl))
  js_nil') js_nil')
  js_nil')))))))))))))))))))))
  (js_cons' (js_ret (JE.jo je_bl))
  js_nil'))
end Tx
namespace Tx
open PySem PySem.Spec L2 Pl
theorem okc_txt {z : Str} (hz : z ∈ (["0123456789", "abcxyz", "A.:/<=-", "09az-", "a0-A<"] : List Str)) : 1 ≤ z.length ∧ z.length ≤ 10 ∧ ∀ c ∈ z.cps.toList, okc c := by
  have all : ∀ z ∈ (["0123456789", "abcxyz", "A.:/<=-", "09az-", "a0-A<"] : List Str), 1 ≤ z.length ∧ z.length ≤ 10 ∧ ∀ c ∈ z.cps.toList, okc c := by decide +kernel
  exact all z hz
theorem pick_str {l : List Str} {i : Int} (h0 : 0 ≤ i) (h1 : i < l.length) : ∃ z ∈ l, atI (l.map Pl.D.str) i = some (.str z) := by
  obtain ⟨x, e, z, rfl, hz⟩ := pick_mem (l := l.map Pl.D.str) (i := i) (P := fun x => ∃ z : Str, x = .str z ∧ z ∈ l) (fun x hx => by
    obtain ⟨z, h, rfl⟩ := List.mem_map.mp hx
    exact ⟨z, rfl, h⟩) h0 (by rw [List.length_map]; exact h1)
  exact ⟨z, hz, e⟩
theorem pick_sgn {z : Str} {i : Int} (h0 : 0 ≤ i) (h1 : i < z.length) : ∃ c ∈ z.cps.toList, atI z.cps.toList i = some c := by
  cases e : atI z.cps.toList i with
  | none => exact absurd e (at_in h0 (by rw [← TL.len_tl]; exact h1))
  | some c => exact ⟨c, at_mem e, rfl⟩
def C_long : Con := fun os post => ∃ (n : Nat) (d : List Pl.D), os = [.fl d] ∧ Deck (n + 200) d ∧ ∀ w d', IsWd w → w.length ≤ 151 → Deck n d' → post (.sh (.str w)) [.fl d']
theorem wd_pre {b : Bool} {cs : List Nat} (h0 : cs ≠ []) (h1 : cs.length ≤ 150) (h : ∀ c ∈ cs, okc c) : IsWd ((if b = true then ("-" : Str) else "") ++ Txt.join "" (cs.map sgn)) ∧ ((if b = true then ("-" : Str) else "") ++ Txt.join "" (cs.map sgn)).length ≤ 151 := by
  have e : TL.tl ((if b = true then ("-" : Str) else "") ++ Txt.join "" (cs.map sgn)) = (if b = true then [45] else []) ++ cs := by
    rw [TL.tl_append, show TL.tl (Txt.join "" (cs.map sgn)) = cs from join_sgns cs]
    cases b <;> rfl
  have hl : 1 ≤ cs.length := List.length_pos_iff.mpr h0
  have e2 : ((if b = true then ("-" : Str) else "") ++ Txt.join "" (cs.map sgn)).length = (if b = true then 1 else 0) + cs.length := by
    rw [TL.len_tl, e, List.length_append]; cases b <;> rfl
  refine ⟨⟨?_, ?_, fun c hc => ?_⟩, ?_⟩
  · rw [e2]; omega
  · rw [e2]; split <;> omega
  · have hc : c ∈ TL.tl ((if b = true then ("-" : Str) else "") ++ Txt.join "" (cs.map sgn)) := hc
    rw [e] at hc
    rcases List.mem_append.mp hc with hc | hc
    · cases b with
      | true => rw [List.mem_singleton.mp hc]; decide
      | false => cases hc
    · exact h c hc
  · rw [e2]; split <;> omega
theorem long_tail {post : O → List O → Prop} {d0 : List Pl.D} {n : Nat} {d : List Pl.D} {z : Str} {m : Int} (hd : Deck (n + 190) d) (hz : 1 ≤ z.length ∧ z.length ≤ 10 ∧ ∀ c ∈ z.cps.toList, okc c) (m1 : 1 ≤ m) (m2 : m ≤ 150) (k : ∀ w d', IsWd w → w.length ≤ 151 → Deck n d' → post (.sh (.str w)) [.fl d']) :
    zSeq (r__law_long_3 C_pick) (zSeq (r__law_long_4 C_pick) (zSeq (r__law_long_5 C_pick) zNx)) (dEnds [0] [.fl d0] post) [some (.fl d), some (.sh (.str z)), some (.sh (.int m)), none, none] := by
  have t5 : ∀ (d : List Pl.D) (cs : List Nat), Deck (n + 1) d → cs ≠ [] → cs.length ≤ 150 → (∀ c ∈ cs, okc c) → zSeq (r__law_long_5 C_pick) zNx (dEnds [0] [.fl d0] post) [some (.fl d), some (.sh (.str z)), some (.sh (.int m)), some (.fl ((cs.map sgn).map .str)), none] := by
    intro d cs hd h0 h1 h2
    have sz := sgns_sum cs
    conv => whnf
    refine ⟨n, d, 5, rfl, hd, by omega, by omega, fun r d1 r0 r1 hd1 => ?_⟩
    obtain ⟨w1, w2⟩ := wd_pre (b := decide (r = 0)) h0 h1 h2
    conv => whnf
    refine ⟨dR (d_int _), ?_⟩
    conv => whnf
    rw [er_vw, er_vw, eqv_int]
    have hl : ∀ a b : Str, (a ++ b).length = a.length + b.length := fun a b => by rw [TL.len_tl, TL.tl_append, List.length_append, ← TL.len_tl, ← TL.len_tl]
    rw [hl] at w2
    have sm : ((cs.map sgn).map (·.length)).sum + (cs.map sgn).length * ("" : Str).length ≤ 16777216 := by
      rw [sgns_sum, List.length_map]
      show cs.length + cs.length * 0 ≤ 16777216
      omega
    cases hb : decide (r = 0)
    all_goals
      rw [hb] at w1 w2
      have kk := fun x => k _ d1 w1 x hd1
      rw [hl] at kk
      have kk := kk w2
      generalize cs.map sgn = ts at kk w2 sm
      conv => whnf
      rw [strsOf_map]
      conv => whnf
      refine ⟨sm, ?_⟩
      conv => whnf
      refine ⟨Nat.le_of_lt (small (Nat.le_trans w2 (by omega))), ?_⟩
      exact kk
  have t4 : ∀ (d : List Pl.D) (cs : List Nat), Deck (n + 10) d → cs.length = m.toNat → (∀ c ∈ cs, okc c) → zSeq (r__law_long_4 C_pick) (zSeq (r__law_long_5 C_pick) zNx) (dEnds [0] [.fl d0] post) [some (.fl d), some (.sh (.str z)), some (.sh (.int m)), some (.fl ((cs.map sgn).map .str)), none] := by
    intro d cs hd hl hc
    have h0 : cs ≠ [] := fun e => by rw [e] at hl; simp at hl; omega
    conv => whnf
    refine ⟨n + 9, d, 3, rfl, hd.le (by omega), by omega, by omega, fun r d1 r0 r1 hd1 => ?_⟩
    conv => whnf
    refine ⟨dR (d_int _), ?_⟩
    conv => whnf
    rw [er_vw, er_vw, eqv_int]
    split
    · conv => whnf
      refine ⟨n + 8, d1, 5, rfl, hd1, by omega, by omega, fun q d2 q0 q1 hd2 => ?_⟩
      obtain ⟨c, hcm, ec⟩ := pick_sgn (z := "a0-A<") q0 (by rw [show ("a0-A<" : Str).length = 5 from by decide +kernel]; omega)
      have hco := (okc_txt (z := "a0-A<") (by simp)).2.2 c hcm
      conv => whnf
      refine ⟨Nat.le_of_lt (small (by decide +kernel)), ?_⟩
      rw [ec]
      conv => whnf
      refine ⟨n + 7, d2, m, rfl, hd2.le (by omega), by omega, by omega, fun i d3 i0 i1 hd3 => ?_⟩
      conv => whnf
      have hil : i < (((cs.map sgn).map Pl.D.str).length : Int) := by rw [List.length_map, List.length_map]; omega
      rw [ixN_in i0 hil]
      conv => whnf
      have eset : ((cs.map sgn).map Pl.D.str).set i.toNat (.str (sgn c)) = ((cs.set i.toNat c).map sgn).map .str := by rw [List.map_set, List.map_set]
      have := t5 d3 (cs.set i.toNat c) (hd3.le (by omega)) (fun e => h0 (by have := congrArg List.length e; rw [List.length_set] at this; exact List.length_eq_zero_iff.mp this)) (by rw [List.length_set]; omega) (fun c' hc' => by
        rcases List.mem_or_eq_of_mem_set hc' with h | h
        · exact hc c' h
        · rw [h]; exact hco)
      rw [← eset] at this
      exact this
    · exact t5 d1 cs (hd1.le (by omega)) h0 (by omega) hc
  conv => whnf
  refine ⟨by omega, ?_⟩
  conv => whnf
  refine ⟨by omega, ?_⟩
  conv => whnf
  refine ⟨by rw [rng_len]; have := sizeLine_eq; omega, ?_⟩
  refine lc_ind (fun ds ρ acc => ∃ d' cs, Deck (n + 10 + ds.length) d' ∧ ρ = [some (.fl d'), some (.sh (.str z)), some (.sh (.int m)), none, none] ∧ acc = (cs.map sgn).map Pl.D.str ∧ (∀ c ∈ cs, okc c) ∧ cs.length + ds.length = m.toNat) ?_ ?_ _ _ _ ⟨d, [], hd.le (by rw [rng_len]; omega), rfl, rfl, by simp, by rw [rng_len]; simp⟩
  · rintro ρ acc ⟨d', cs, e1, rfl, rfl, e2, e3⟩
    exact t4 d' cs (e1.le (by omega)) (by simpa using e3) e2
  · rintro x ds ρ acc R ⟨d', cs, e1, rfl, rfl, e2, e3⟩ hR
    conv => whnf
    refine ⟨by have := sizeLine_eq; omega, ?_⟩
    conv => whnf
    refine ⟨n + 10 + ds.length, d', z.length, rfl, e1, by omega, by omega, fun p d3 p0 p1 hd3 => ?_⟩
    obtain ⟨c, hcm, ec⟩ := pick_sgn (z := z) p0 p1
    conv => whnf
    refine ⟨by have := sizeLine_eq; omega, ?_⟩
    rw [ec]
    refine hR _ _ ⟨d3, cs ++ [c], hd3, rfl, by simp, ?_, ?_⟩
    · intro c' hc
      rcases List.mem_append.mp hc with hc | hc
      · exact e2 c' hc
      · rw [List.mem_singleton.mp hc]; exact hz.2.2 c hcm
    · rw [List.length_append, List.length_singleton]
      rw [List.length_cons] at e3
      omega
theorem h_long : ∀ os post, C_long os post → os.length = 1 ∧ r__law_long C_pick (dEnds [0] os post) (start0 N__law_long.length os) := by
  rintro os post ⟨n, d, rfl, hd, k⟩
  refine ⟨rfl, ?_⟩
  conv => whnf
  refine ⟨n + 199, d, 4, rfl, hd.le (by omega), by omega, by omega, fun r d1 r0 r1 hd1 => ?_⟩
  obtain ⟨z, hz, ez⟩ := pick_str (l := ["0123456789", "abcxyz", "A.:/<=-", "09az-"]) r0 r1
  have hz' := okc_txt (z := z) (by revert hz; simp only [List.mem_cons, List.not_mem_nil, or_false]; intro h; rcases h with h | h | h | h <;> simp [h])
  conv => whnf
  rw [show atI [Pl.D.str "0123456789", .str "abcxyz", .str "A.:/<=-", .str "09az-"] r = some (.str z) from ez]
  conv => whnf
  refine ⟨n + 198, d1, 150, rfl, hd1, by omega, by omega, fun q d2 q0 q1 hd2 => ?_⟩
  conv => whnf
  refine ⟨n + 197, d2, 5, rfl, hd2, by omega, by omega, fun p d3 p0 p1 hd3 => ?_⟩
  conv => whnf
  refine ⟨n + 196, d3, 3, rfl, hd3, by omega, by omega, fun i d4 i0 i1 hd4 => ?_⟩
  have hi : i = 0 ∨ i = 1 ∨ i = 2 := by omega
  rcases hi with rfl | rfl | rfl
  · exact long_tail (d0 := d) (m := 1 + q) (hd4.le (by omega)) hz' (by omega) (by omega) k
  · exact long_tail (d0 := d) (m := 150) (hd4.le (by omega)) hz' (by omega) (by omega) k
  · exact long_tail (d0 := d) (m := 1 + p) (hd4.le (by omega)) hz' (by omega) (by omega) k
def C_other : Con := fun os post => ∃ (n : Nat) (d : List Pl.D) (w : Str), os = [.fl d, .sh (.str w)] ∧ IsWd w ∧ Deck (n + 1) d ∧ ∀ w' d', IsWd w' → w' ≠ w → Deck n d' → post (.sh (.str w')) [.fl d', .sh (.str w)]
def figs10 : Str := "0123456789"
def lets26 : Str := "abcdefghijklmnopqrstuvwxyz"
theorem next_ne {z : Str} (hz : z = "0123456789" ∨ z = "abcdefghijklmnopqrstuvwxyz") {i c : Nat} (hi : z.cps.toList[i]? = some c) : ∃ c', z.cps.toList[(i + 1) % z.length]? = some c' ∧ okc c' ∧ c' ≠ c := by
  have key : ∀ z ∈ (["0123456789", "abcdefghijklmnopqrstuvwxyz"] : List Str), ∀ i < z.length, ∃ c ∈ z.cps.toList[i]?, ∃ c' ∈ z.cps.toList[(i + 1) % z.length]?, okc c' ∧ c' ≠ c := by decide +kernel
  have hl : i < z.length := by rw [TL.len_tl]; exact (List.getElem?_eq_some_iff.mp hi).1
  obtain ⟨c1, h1, c', h2, h3, h4⟩ := key z (by rcases hz with rfl | rfl <;> simp) i hl
  have h1 : z.cps.toList[i]? = some c1 := h1
  rw [hi] at h1
  cases h1
  exact ⟨c', h2, h3, h4⟩
theorem h_other : ∀ os post, C_other os post → os.length = 2 ∧ r__law_other C_pick (dEnds [0] os post) (start0 N__law_other.length os) := by
  rintro os post ⟨n, d, w, rfl, hw, hd, k⟩
  refine ⟨rfl, ?_⟩
  have wl : w.length ≤ sizeLine := Nat.le_of_lt (small (by have := hw.2.1; omega))
  conv => whnf
  refine ⟨wl, ?_⟩
  conv => whnf
  refine ⟨n, d, w.length, rfl, hd, by have := hw.1; omega, by have := hw.2.1; omega, fun i d1 i0 i1 hd1 => ?_⟩
  obtain ⟨at', rfl⟩ := Int.eq_ofNat_of_zero_le i0
  obtain ⟨c, hcm, ec⟩ := pick_sgn (z := w) i0 i1
  show zSeq (r__law_other_2 C_pick) (zSeq (r__law_other_3 C_pick) (zSeq (r__law_other_4 C_pick) zNx)) (dEnds [0] [.fl d, .sh (.str w)] post) [some (.fl d1), some (.sh (.str w)), some (.sh (.int (at' : Int))), none, none]
  refine zSeq_in ?_
  show zSeq (r__law_other_3 C_pick) _ _ [some (.fl d1), some (.sh (.str w)), some (.sh (.int (at' : Int))), some (.sh (.str (sgn 122))), none]
  refine zSeq_in ?_
  refine zFor_of (ds := [.str "0123456789", .str "abcdefghijklmnopqrstuvwxyz"]) (ρ1 := [some (.fl d1), some (.sh (.str w)), some (.sh (.int (at' : Int))), some (.sh (.str (sgn 122))), none]) (fun K hK => hK) ?_
  refine loop_ind (fun dr ρ => ∃ (zs : List Str) (c' : Nat) (a4 : Option O), dr = zs.map .str ∧ (∀ z ∈ zs, z = "0123456789" ∨ z = "abcdefghijklmnopqrstuvwxyz") ∧ okc c' ∧ (c' ≠ c ∨ (c' = 122 ∧ c = 122 ∧ ("abcdefghijklmnopqrstuvwxyz" : Str) ∈ zs)) ∧ ρ = [some (.fl d1), some (.sh (.str w)), some (.sh (.int (at' : Int))), some (.sh (.str (sgn c'))), a4]) ?_ ?_ _ _ ⟨["0123456789", "abcdefghijklmnopqrstuvwxyz"], 122, none, rfl, by simp, by decide, ?_, rfl⟩
  · rintro ρ ⟨zs, c', a4, e1, e2, e3, e4, rfl⟩
    have e : zs = [] := List.map_eq_nil_iff.mp e1.symm
    subst e
    have e4 : c' ≠ c := e4.elim id fun h => by cases h.2.2
    have hget : (TL.tl w)[at']? = some c := at_get ec i0
    have hlt : at' < (TL.tl w).length := (List.getElem?_eq_some_iff.mp hget).1
    have hwl : (TL.tl w).length = w.length := (TL.len_tl w).symm
    have et : TL.tl ((cutS w none (some (at' : Int)) ++ sgn c') ++ cutS w (some ((at' : Int) + 1)) none) = (TL.tl w).take at' ++ [c'] ++ (TL.tl w).drop (at' + 1) := by
      rw [TL.tl_append, TL.tl_append, tl_to, show ((at' : Int) + 1) = ((at' + 1 : Nat) : Int) from by omega, tl_from]; rfl
    have el1 : (cutS w none (some (at' : Int))).length = at' := by rw [TL.len_tl, tl_to, List.length_take]; omega
    have el2 : (cutS w (some ((at' : Int) + 1)) none).length ≤ w.length := cutS_length ..
    have el3 : (cutS w none (some (at' : Int)) ++ sgn c').length = at' + 1 := by rw [TL.len_tl, TL.tl_append, List.length_append, ← TL.len_tl, el1]; rfl
    have hlen : ((cutS w none (some (at' : Int)) ++ sgn c') ++ cutS w (some ((at' : Int) + 1)) none).length = w.length := by
      rw [TL.len_tl, et, List.length_append, List.length_append, List.length_take, List.length_drop, List.length_singleton]; omega
    have hw1 := hw.2.1
    have fin := k ((cutS w none (some (at' : Int)) ++ sgn c') ++ cutS w (some ((at' : Int) + 1)) none) d1 ⟨by rw [hlen]; exact hw.1, by rw [hlen]; exact hw1, fun x hx => by
      have hx : x ∈ TL.tl ((cutS w none (some (at' : Int)) ++ sgn c') ++ cutS w (some ((at' : Int) + 1)) none) := hx
      rw [et] at hx
      rcases List.mem_append.mp hx with hx | hx
      · rcases List.mem_append.mp hx with hx | hx
        · exact hw.2.2 x (mem_take hx)
        · rw [List.mem_singleton.mp hx]; exact e3
      · exact hw.2.2 x (List.mem_of_mem_drop hx)⟩ (fun e => by
      have := congrArg (fun z => (TL.tl z)[at']?) e
      simp only [et, hget] at this
      rw [List.append_assoc, List.getElem?_append_right (by rw [List.length_take]; omega), List.length_take, Nat.min_eq_left (by omega), Nat.sub_self] at this
      exact e4 (Option.some.inj this)) hd1
    conv => whnf
    refine ⟨wl, ?_⟩
    conv => whnf
    refine ⟨by rw [el1]; show at' + 1 ≤ _; exact Nat.le_of_lt (small (by omega)), ?_⟩
    conv => whnf
    refine ⟨wl, ?_⟩
    conv => whnf
    refine ⟨by rw [el3]; exact Nat.le_of_lt (small (by omega)), ?_⟩
    exact fin
  · rintro x dr ρ R ⟨zs, c', a4, e1, e2, e3, e4, rfl⟩ hR
    cases zs with
    | nil => cases e1
    | cons z zs =>
      rw [List.map_cons, List.cons.injEq] at e1
      obtain ⟨rfl, rfl⟩ := e1
      have hz := e2 z (List.mem_cons_self ..)
      have hzl : 1 ≤ z.length ∧ z.length ≤ 26 := by rcases hz with rfl | rfl <;> decide +kernel
      conv => whnf
      refine ⟨wl, ?_⟩
      rw [ec]
      conv => whnf
      refine ⟨c, rfl, ?_⟩
      by_cases hcz : c ∈ z.cps.toList
      · rw [decide_eq_true hcz]
        conv => whnf
        refine ⟨wl, ?_⟩
        rw [ec]
        conv => whnf
        refine ⟨c, rfl, hcz, fun j hj => ?_⟩
        obtain ⟨c2, hc2, ho2, hn2⟩ := next_ne hz hj
        have emod : atI z.cps.toList (((j : Int) + 1) % (z.length : Int)) = some c2 := by
          rw [show (((j : Int) + 1) % (z.length : Int)) = (((j + 1) % z.length : Nat) : Int) from by rw [Int.natCast_emod, Int.natCast_add]; rfl]
          have hm : (j + 1) % z.length < z.length := Nat.mod_lt _ (by omega)
          unfold atI
          rw [ixN_in (by omega) (by rw [← TL.len_tl]; omega)]
          exact hc2
        conv => whnf
        refine ⟨by have := sizeLine_eq; omega, ?_⟩
        refine ⟨show (0 : Int) < (z.length : Int) from by omega, ?_⟩
        conv => whnf
        refine ⟨by have := sizeLine_eq; omega, ?_⟩
        rw [emod]
        exact hR _ ⟨zs, c2, _, rfl, fun z h => e2 z (List.mem_cons_of_mem _ h), ho2, .inl hn2, rfl⟩
      · rw [decide_eq_false hcz]
        refine hR _ ⟨zs, c', _, rfl, fun z h => e2 z (List.mem_cons_of_mem _ h), e3, ?_, rfl⟩
        rcases e4 with h | ⟨h1, h2, h3⟩
        · exact .inl h
        · rcases List.mem_cons.mp h3 with h3 | h3
          · subst h3
            exact absurd (by rw [h2]; decide +kernel) hcz
          · exact .inr ⟨h1, h2, h3⟩
  · by_cases h : c = 122
    · exact .inr ⟨rfl, h, by simp⟩
    · exact .inl fun e => h e.symm

def hk (a b : Str) : Hk := if lkind b = lkind a then (if lkind a = "number" then .number else if lkind a = "name" then .name else .any) else .any
theorem joinPt_two {a b : Str} (h : b ≠ a) : joinPt (.w a) [.w b] = .h (hk a b) := by
  unfold joinPt hk
  have e1 : (([Pt.w a, .w b] : List Pt).all fun x => decide (x = .w a)) = false := by
    rw [List.all_cons, List.all_cons, decide_eq_true rfl, decide_eq_false fun e => h (by cases e; rfl)]; rfl
  have e2 : (([Pt.w a, .w b] : List Pt).all fun x => decide (jKind x = jKind (.w a))) = decide (lkind b = lkind a) := by
    rw [List.all_cons, List.all_cons, decide_eq_true rfl]
    show (true && (decide (lkind b = lkind a) && true)) = _
    rw [Bool.true_and, Bool.and_true]
  rw [e1, e2]
  by_cases hk' : lkind b = lkind a
  · rw [decide_eq_true hk', if_pos hk']
    show (if lkind a = "number" then Pt.h .number else if lkind a = "name" then .h .name else .h .any) = _
    split
    · rfl
    · split <;> rfl
  · rw [decide_eq_false hk', if_neg hk']; rfl
theorem joinP_one {ws : List Str} {i : Nat} (hi : i < ws.length) {v : Str} (hv : v ≠ ws[i]) : joinP [ofWs ws, ofWs (ws.set i v)] = (ofWs ws).take i ++ [.h (hk ws[i] v)] ++ (ofWs ws).drop (i + 1) := by
  have ol : (ofWs ws).length = ws.length := by unfold ofWs; rw [List.length_map]
  refine List.ext_getElem? fun j => ?_
  by_cases hj : j < ws.length
  · have e1 : (joinP [ofWs ws, ofWs (ws.set i v)])[j]? = some (joinPt ((ofWs ws).getD j hole) [(ofWs (ws.set i v)).getD j hole]) := by
      unfold joinP
      rw [List.getElem?_map, List.getElem?_range (by omega)]; rfl
    rw [e1, ofWs_at hj, ofWs_at (by rw [List.length_set]; exact hj)]
    have wj : wAt ws j = ws[j] := by unfold wAt; rw [List.getD_eq_getElem?_getD, List.getElem?_eq_getElem hj]; rfl
    have vj : wAt (ws.set i v) j = if i = j then v else ws[j] := by
      unfold wAt
      rw [List.getD_eq_getElem?_getD, List.getElem?_eq_getElem (by rw [List.length_set]; exact hj), List.getElem_set]; rfl
    rw [wj, vj]
    have owj : (ofWs ws)[j]? = some (.w ws[j]) := by unfold ofWs; rw [List.getElem?_map, List.getElem?_eq_getElem hj]; rfl
    by_cases e : i = j
    · subst e
      rw [if_pos rfl, joinPt_two hv, List.append_assoc, List.getElem?_append_right (by rw [List.length_take]; omega), List.length_take, Nat.min_eq_left (by omega), Nat.sub_self]; rfl
    · rw [if_neg e, joinPt_alike (by simp)]
      by_cases h : j < i
      · rw [List.append_assoc, List.getElem?_append_left (by rw [List.length_take]; omega), List.getElem?_take_of_lt h, owj]
      · rw [List.getElem?_append_right (by rw [List.length_append, List.length_take, List.length_singleton]; omega), List.length_append, List.length_take, List.length_singleton, Nat.min_eq_left (by omega), List.getElem?_drop, show i + 1 + (j - (i + 1)) = j by omega, owj]
  · rw [List.getElem?_eq_none (by unfold joinP; rw [List.length_map, List.length_range]; omega), List.getElem?_eq_none (by rw [List.length_append, List.length_append, List.length_take, List.length_drop, List.length_singleton]; omega)]
theorem hk_fits (a b : Str) : fitsPt (.h (hk a b)) a = true ∧ fitsPt (.h (hk a b)) b = true := by
  unfold hk fitsPt
  by_cases h : lkind b = lkind a
  · rw [if_pos h]
    by_cases h1 : lkind a = "number"
    · rw [if_pos h1]; dsimp only; rw [h, h1]; exact ⟨rfl, rfl⟩
    · rw [if_neg h1]
      by_cases h2 : lkind a = "name"
      · rw [if_pos h2]; dsimp only; rw [h, h2]; exact ⟨rfl, rfl⟩
      · rw [if_neg h2]; exact ⟨rfl, rfl⟩
  · rw [if_neg h]; exact ⟨rfl, rfl⟩
def midP (A : List Str) (k : Hk) (B : List Str) : Pat := ofWs A ++ [.h k] ++ ofWs B
theorem mid_of (ws : List Str) (i : Nat) (k : Hk) : (ofWs ws).take i ++ [Pt.h k] ++ (ofWs ws).drop (i + 1) = midP (ws.take i) k (ws.drop (i + 1)) := by
  unfold midP ofWs
  rw [List.map_take, List.map_drop]
theorem mid_fits {k : Hk} {u : Str} (h : fitsPt (.h k) u = true) : ∀ (A B : List Str), fitsWs (midP A k B) (A ++ u :: B) = true
  | [], B => by
    show (fitsPt (.h k) u && fitsWs (ofWs B) B) = true
    rw [h, ofWs_fits]; rfl
  | a :: A, B => by
    show (fitsPt (.w a) a && fitsWs (midP A k B) (A ++ u :: B)) = true
    rw [mid_fits h A B]
    unfold fitsPt
    simp
theorem mid_fillP {k : Hk} {u : Str} (h : fitsPt (.h k) u = true) : ∀ (A B : List Str), fillP (midP A k B) [u] = some (A ++ u :: B)
  | [], B => by
    show (if fitsPt (.h k) u then (fillP (ofWs B) []).map (u :: ·) else none) = _
    rw [h, fillP_ofWs]; rfl
  | a :: A, B => by
    show (fillP (midP A k B) [u]).map (a :: ·) = _
    rw [mid_fillP h A B]; rfl
theorem fillW_ofWs : ∀ B C : List Str, fillW (ofWs B) C = []
  | [], _ => rfl
  | _ :: _, [] => rfl
  | _ :: B, _ :: C => fillW_ofWs B C
theorem mid_fillW {k : Hk} {u : Str} : ∀ (A B : List Str), fillW (midP A k B) (A ++ u :: B) = [u]
  | [], B => by
    show u :: fillW (ofWs B) B = _
    rw [fillW_ofWs]
  | a :: A, B => mid_fillW A B
theorem mid_len (A B : List Str) (k : Hk) : (midP A k B).length = A.length + 1 + B.length := by
  unfold midP ofWs
  rw [List.length_append, List.length_append, List.length_map, List.length_map, List.length_singleton]
section
variable {a0 a1 a2 a3 a4 a5 a6 a7 a8 a9 a10 a11 a12 a13 a14 a15 a16 a17 : Option O}
structure Has (ws : List Str) : Prop where
  l0 : 1 ≤ ws.length
  l1 : ws.length ≤ 12
  wd : ∀ w ∈ ws, IsWd w
theorem Has.ne {ws : List Str} (H : Has ws) : ws ≠ [] := List.length_pos_iff.mp H.l0
theorem Has.ln {ws : List Str} (H : Has ws) : IsLn 12 (Txt.join " " ws) := ⟨ws, rfl, H.ne, H.l1, H.wd⟩
theorem Has.sp {ws : List Str} (H : Has ws) : Txt.split (Txt.join " " ws) " " = ws := split_ln H.ne fun w hw => wd_blank (H.wd w hw)
theorem join_inj {ws vs : List Str} (H : Has ws) (H' : Has vs) (e : Txt.join " " ws = Txt.join " " vs) : ws = vs := by rw [← H.sp, e, H'.sp]
abbrev sWs (ws : List Str) : Option O := some (.sh (.nl (ws.map .str)))
abbrev fWs (ws : List Str) : Option O := some (.fl (ws.map .str))
abbrev sLn (ws : List Str) : Option O := some (.sh (.str (Txt.join " " ws)))
theorem law1 {cell : Int} (D : PEnds) (h : ∀ d, Deck 100000 d → D.nx [a0, some (.sh (.int cell)), some (.fl d), a3, a4, a5, a6, a7, a8, a9, a10, a11, a12, a13, a14, a15, a16, a17]) : r_law_1a_1 C_inOrder C_showPat C_readPat C_falls C_fillings C_filled C_fits C_kind C_joined C_isLine C_other C_pick C_kind C_long C_deck D [a0, some (.sh (.int cell)), a2, a3, a4, a5, a6, a7, a8, a9, a10, a11, a12, a13, a14, a15, a16, a17] := by
  conv => whnf
  exact ⟨cell, 0, 100000, rfl, by omega, fun d hd => h d hd⟩
theorem law2 {n : Nat} {d : List Pl.D} (hd : Deck (n + 5000) d) (D : PEnds) (h : ∀ (ws : List Str) d', Has ws → Deck n d' → D.nx [a0, a1, some (.fl d'), fWs ws, a4, a5, a6, a7, a8, a9, a10, a11, a12, a13, a14, a15, a16, a17]) : r_law_1a_2 C_inOrder C_showPat C_readPat C_falls C_fillings C_filled C_fits C_kind C_joined C_isLine C_other C_pick C_kind C_long C_deck D [a0, a1, some (.fl d), a3, a4, a5, a6, a7, a8, a9, a10, a11, a12, a13, a14, a15, a16, a17] := by
  conv => whnf
  refine ⟨n + 4000, d, 12, rfl, hd.le (by omega), by omega, by omega, fun r d1 r0 r1 hd1 => ?_⟩
  conv => whnf
  refine ⟨by omega, ?_⟩
  conv => whnf
  refine ⟨by omega, ?_⟩
  conv => whnf
  refine ⟨by rw [rng_len]; have := sizeLine_eq; omega, ?_⟩
  refine lc_ind (fun ds ρ acc => ∃ d' ws, Deck (n + 200 * ds.length) d' ∧ ρ = [a0, a1, some (.fl d'), a3, a4, a5, a6, a7, a8, a9, a10, a11, a12, a13, a14, a15, a16, a17] ∧ acc = (ws : List Str).map Pl.D.str ∧ (∀ w ∈ ws, IsWd w) ∧ ws.length + ds.length = (1 + r).toNat) ?_ ?_ _ _ _ ⟨d1, [], hd1.le (by rw [rng_len]; omega), rfl, rfl, by simp, by rw [rng_len]; simp⟩
  · rintro ρ acc ⟨d', ws, e1, rfl, rfl, e2, e3⟩
    have e3 : ws.length = (1 + r).toNat := by simpa using e3
    exact h ws d' ⟨by omega, by omega, e2⟩ (e1.le (by omega))
  · rintro x ds ρ acc R ⟨d', ws, e1, rfl, rfl, e2, e3⟩ hR
    rw [List.length_cons] at e1 e3
    conv => whnf
    refine ⟨n + 200 * ds.length, d', rfl, e1.le (by omega), fun w d3 hw _ hd3 => ?_⟩
    refine hR _ _ ⟨d3, ws ++ [w], hd3, rfl, by rw [List.map_append]; rfl, fun y hy => ?_, by rw [List.length_append, List.length_singleton]; omega⟩
    rcases List.mem_append.mp hy with hy | hy
    · exact e2 y hy
    · rw [List.mem_singleton.mp hy]; exact hw
theorem law3 {ws : List Str} (H : Has ws) (D : PEnds) (h : D.nx [a0, a1, a2, sWs ws, a4, a5, a6, a7, a8, a9, a10, a11, a12, a13, a14, a15, a16, a17]) : r_law_1a_3 C_inOrder C_showPat C_readPat C_falls C_fillings C_filled C_fits C_kind C_joined C_isLine C_other C_pick C_kind C_long C_deck D [a0, a1, a2, fWs ws, a4, a5, a6, a7, a8, a9, a10, a11, a12, a13, a14, a15, a16, a17] := by
  have hl := H.l1
  conv => whnf
  refine ⟨by rw [List.length_map]; exact Nat.le_of_lt (small (by omega)), ?_⟩
  refine lc_mt id Pl.D.str (fun _ => none) (fun w => IsWd w) [a0, a1, a2, sWs ws, a4, a5, a6, a7, a8, a9, a10, a11, a12, a13, a14, a15, a16, a17] ?_ _ ws _ (by rw [List.map_id]) H.wd ?_
  · rintro d w hd hw R acc hR
    have hd : d = .str w := hd
    subst hd
    rw [show (none : Option Pl.D).toList = [] from rfl, List.append_nil] at hR
    have hwl : w.length ≤ sizeLine := Nat.le_of_lt (small (by have := hw.2.1; omega))
    conv => whnf
    refine ⟨w, rfl, hwl, ?_⟩
    conv => whnf
    refine ⟨w, rfl, hwl, ?_⟩
    conv => whnf
    refine ⟨dR (d_str _), ?_⟩
    conv => whnf
    rw [show (er (vw (.str (lkind w)))).eqv (er (vw (.str (lkind w)))) = true from by rw [er_vw, eqv_str]; exact decide_eq_true rfl]
    exact hR
  rw [show ws.filterMap (fun _ => (none : Option Pl.D)) = [] from List.filterMap_eq_nil_iff.mpr fun _ _ => rfl, List.nil_append]
  conv => whnf
  refine ⟨dR d_nil, ?_⟩
  exact h
theorem join_ok {ws : List Str} (H : Has ws) : (ws.map (·.length)).sum + ws.length * (" " : Str).length ≤ 16777216 := by
  have h1 := sum_le 1000 ws fun w hw => (H.wd w hw).2.1
  have h2 := H.l1
  rw [show (" " : Str).length = 1 from by decide]
  omega
theorem law4 {ws : List Str} (H : Has ws) (D : PEnds) (h : D.nx [a0, a1, a2, sWs ws, sLn ws, a5, a6, a7, a8, a9, a10, a11, a12, a13, a14, a15, a16, a17]) : r_law_1a_4 C_inOrder C_showPat C_readPat C_falls C_fillings C_filled C_fits C_kind C_joined C_isLine C_other C_pick C_kind C_long C_deck D [a0, a1, a2, sWs ws, a4, a5, a6, a7, a8, a9, a10, a11, a12, a13, a14, a15, a16, a17] := by
  have hj := join_ok H
  conv => whnf
  rw [strsOf_map]
  conv => whnf
  exact ⟨hj, h⟩
theorem law5 {n : Nat} {d : List Pl.D} (hd : Deck (n + 1) d) {ws : List Str} (H : Has ws) (D : PEnds) (h : ∀ (i : Nat) d', i < ws.length → Deck n d' → D.nx [a0, a1, some (.fl d'), sWs ws, a4, some (.sh (.int (i : Int))), a6, a7, a8, a9, a10, a11, a12, a13, a14, a15, a16, a17]) : r_law_1a_5 C_inOrder C_showPat C_readPat C_falls C_fillings C_filled C_fits C_kind C_joined C_isLine C_other C_pick C_kind C_long C_deck D [a0, a1, some (.fl d), sWs ws, a4, a5, a6, a7, a8, a9, a10, a11, a12, a13, a14, a15, a16, a17] := by
  have hl := H.l1
  have hl0 := H.l0
  conv => whnf
  refine ⟨n, d, _, rfl, hd, by rw [List.length_map]; omega, by rw [List.length_map]; omega, fun r d1 r0 r1 hd1 => ?_⟩
  obtain ⟨k, rfl⟩ := Int.eq_ofNat_of_zero_le r0
  rw [List.length_map] at r1
  exact h k d1 (by omega) hd1
theorem law6 {ws : List Str} (H : Has ws) (D : PEnds) (h : D.nx [a0, a1, a2, sWs ws, a4, a5, fWs ws, a7, a8, a9, a10, a11, a12, a13, a14, a15, a16, a17]) : r_law_1a_6 C_inOrder C_showPat C_readPat C_falls C_fillings C_filled C_fits C_kind C_joined C_isLine C_other C_pick C_kind C_long C_deck D [a0, a1, a2, sWs ws, a4, a5, a6, a7, a8, a9, a10, a11, a12, a13, a14, a15, a16, a17] := by
  have hl := H.l1
  conv => whnf
  exact h
theorem law7 {n : Nat} {d : List Pl.D} (hd : Deck (n + 1) d) {ws : List Str} (H : Has ws) {i : Nat} (hi : i < ws.length) (D : PEnds) (h : ∀ (v : Str) d', IsWd v → v ≠ ws[i] → Deck n d' → D.nx [a0, a1, some (.fl d'), sWs ws, a4, some (.sh (.int (i : Int))), fWs (ws.set i v), a7, a8, a9, a10, a11, a12, a13, a14, a15, a16, a17]) : r_law_1a_7 C_inOrder C_showPat C_readPat C_falls C_fillings C_filled C_fits C_kind C_joined C_isLine C_other C_pick C_kind C_long C_deck D [a0, a1, some (.fl d), sWs ws, a4, some (.sh (.int (i : Int))), fWs ws, a7, a8, a9, a10, a11, a12, a13, a14, a15, a16, a17] := by
  have hl := H.l1
  have e1 : atI (ws.map Pl.D.str) (i : Int) = some (.str ws[i]) := by
    unfold atI
    rw [ixN_in (by omega) (by rw [List.length_map]; omega)]
    show (ws.map Pl.D.str)[i]? = _
    rw [List.getElem?_map, List.getElem?_eq_getElem hi]; rfl
  conv => whnf
  rw [e1]
  conv => whnf
  refine ⟨n, d, _, rfl, H.wd _ (List.getElem_mem hi), hd, fun v d1 hv hne hd1 => ?_⟩
  conv => whnf
  rw [ixN_in (by omega) (by rw [List.length_map]; omega)]
  conv => whnf
  have := h v d1 hv hne hd1
  rw [show fWs (ws.set i v) = some (.fl ((ws.map Pl.D.str).set i (.str v))) from by unfold fWs; rw [List.map_set]] at this
  exact this
theorem law8 {ws : List Str} (H : Has ws) (D : PEnds) (h : D.nx [a0, a1, a2, a3, a4, a5, fWs ws, sLn ws, a8, a9, a10, a11, a12, a13, a14, a15, a16, a17]) : r_law_1a_8 C_inOrder C_showPat C_readPat C_falls C_fillings C_filled C_fits C_kind C_joined C_isLine C_other C_pick C_kind C_long C_deck D [a0, a1, a2, a3, a4, a5, fWs ws, a7, a8, a9, a10, a11, a12, a13, a14, a15, a16, a17] := by
  have hj := join_ok H
  conv => whnf
  rw [strsOf_map]
  conv => whnf
  exact ⟨hj, h⟩
theorem law9 {ws vs : List Str} (H : Has ws) (H' : Has vs) (hne : ws ≠ vs) (D : PEnds) (h : D.nx [a0, a1, a2, a3, sLn ws, a5, a6, sLn vs, a8, a9, a10, a11, a12, a13, a14, a15, a16, a17]) : r_law_1a_9 C_inOrder C_showPat C_readPat C_falls C_fillings C_filled C_fits C_kind C_joined C_isLine C_other C_pick C_kind C_long C_deck D [a0, a1, a2, a3, sLn ws, a5, a6, sLn vs, a8, a9, a10, a11, a12, a13, a14, a15, a16, a17] := by
  have z1 := H.ln
  have z2 := H'.ln
  have hjn : Txt.join " " ws ≠ Txt.join " " vs := fun e => hne (join_inj H H' e)
  conv => whnf
  refine ⟨_, rfl, z1, ?_⟩
  conv => whnf
  refine ⟨_, rfl, z2, ?_⟩
  conv => whnf
  refine ⟨dR (d_str _), ?_⟩
  conv => whnf
  rw [show (er (vw (.str (Txt.join " " ws)))).eqv (er (vw (.str (Txt.join " " vs)))) = false from by rw [er_vw, er_vw, eqv_str]; exact decide_eq_false hjn]
  exact h
abbrev fPl (ws : List Str) : Option O := some (.fl ((ofWs ws).map enP))
abbrev sPl (ws : List Str) : Option O := some (.sh (.nl ((ofWs ws).map enP)))
theorem ofWs_enP (ws : List Str) : ws.map (fun w => enP (.w w)) = (ofWs ws).map enP := by unfold ofWs; rw [List.map_map]; rfl
theorem law10 {ws : List Str} (H : Has ws) (D : PEnds) (h : D.nx [a0, a1, a2, sWs ws, a4, a5, a6, a7, fPl ws, a9, a10, a11, a12, a13, a14, a15, a16, a17]) : r_law_1a_10 C_inOrder C_showPat C_readPat C_falls C_fillings C_filled C_fits C_kind C_joined C_isLine C_other C_pick C_kind C_long C_deck D [a0, a1, a2, sWs ws, a4, a5, a6, a7, a8, a9, a10, a11, a12, a13, a14, a15, a16, a17] := by
  have hl := H.l1
  conv => whnf
  refine ⟨by rw [List.length_map]; exact Nat.le_of_lt (small (by omega)), ?_⟩
  refine lc_mt id Pl.D.str (fun w => some (enP (.w w))) (fun w => True) [a0, a1, a2, sWs ws, a4, a5, a6, a7, a8, a9, a10, a11, a12, a13, a14, a15, a16, a17] ?_ _ ws _ (by rw [List.map_id]) (fun _ _ => trivial) ?_
  · rintro d w hd _ R acc hR
    have hd : d = .str w := hd
    subst hd
    exact hR
  rw [fm_some, List.nil_append, ofWs_enP]
  exact h
theorem law11 {ws : List Str} (H : Has ws) (D : PEnds) (h : D.nx [a0, a1, a2, a3, a4, a5, sWs ws, a7, a8, fPl ws, a10, a11, a12, a13, a14, a15, a16, a17]) : r_law_1a_11 C_inOrder C_showPat C_readPat C_falls C_fillings C_filled C_fits C_kind C_joined C_isLine C_other C_pick C_kind C_long C_deck D [a0, a1, a2, a3, a4, a5, fWs ws, a7, a8, a9, a10, a11, a12, a13, a14, a15, a16, a17] := by
  have hl := H.l1
  conv => whnf
  refine ⟨by rw [List.length_map]; exact Nat.le_of_lt (small (by omega)), ?_⟩
  refine lc_mt id Pl.D.str (fun w => some (enP (.w w))) (fun w => True) [a0, a1, a2, a3, a4, a5, sWs ws, a7, a8, a9, a10, a11, a12, a13, a14, a15, a16, a17] ?_ _ ws _ (by rw [List.map_id]) (fun _ _ => trivial) ?_
  · rintro d w hd _ R acc hR
    have hd : d = .str w := hd
    subst hd
    exact hR
  rw [fm_some, List.nil_append, ofWs_enP]
  exact h
abbrev fP (p : Pat) : Option O := some (.fl (p.map enP))
theorem Has.ok {ws : List Str} (H : Has ws) : OkPat (ofWs ws) := ofWs_ok (by have := H.l1; omega) H.wd
theorem law12 {ws vs : List Str} (H : Has ws) (H' : Has vs) (hl : vs.length = ws.length) (D : PEnds) (h : D.nx [a0, a1, a2, a3, a4, a5, a6, a7, sPl ws, sPl vs, fP (joinP [ofWs ws, ofWs vs]), a11, a12, a13, a14, a15, a16, a17]) : r_law_1a_12 C_inOrder C_showPat C_readPat C_falls C_fillings C_filled C_fits C_kind C_joined C_isLine C_other C_pick C_kind C_long C_deck D [a0, a1, a2, a3, a4, a5, a6, a7, fPl ws, fPl vs, a10, a11, a12, a13, a14, a15, a16, a17] := by
  have o1 := H.ok
  have o2 := H'.ok
  have ol : (ofWs vs).length = (ofWs ws).length := by unfold ofWs; rw [List.length_map, List.length_map, hl]
  conv => whnf
  refine ⟨[.nl ((ofWs ws).map enP), .nl ((ofWs vs).map enP)], ofWs ws, [ofWs vs], rfl, rfl, ?_, ?_, by simp, h⟩
  · intro q hq
    rcases List.mem_cons.mp hq with rfl | hq
    · exact o1
    · rw [List.mem_singleton.mp hq]; exact o2
  · intro q hq
    rw [List.mem_singleton.mp hq]; exact ol
theorem ws_ix {ws : List Str} {i : Nat} (h : i < ws.length) : atI (ws.map Pl.D.str) (i : Int) = some (.str ws[i]) := by
  unfold atI
  rw [ixN_in (by omega) (by rw [List.length_map]; omega)]
  show (ws.map Pl.D.str)[i]? = _
  rw [List.getElem?_map, List.getElem?_eq_getElem h]; rfl
theorem wl {w : Str} (h : IsWd w) : w.length ≤ sizeLine := Nat.le_of_lt (small (by have := h.2.1; omega))
theorem law13 {ws vs : List Str} (H : Has ws) (H' : Has vs) {i : Nat} (hi : i < ws.length) (hv : i < vs.length) (D : PEnds) (h : D.nx [a0, a1, a2, sWs ws, a4, some (.sh (.int (i : Int))), sWs vs, a7, a8, a9, a10, some (.fl [.str (lkind ws[i]), .str (lkind vs[i])]), a12, a13, a14, a15, a16, a17]) : r_law_1a_13 C_inOrder C_showPat C_readPat C_falls C_fillings C_filled C_fits C_kind C_joined C_isLine C_other C_pick C_kind C_long C_deck D [a0, a1, a2, sWs ws, a4, some (.sh (.int (i : Int))), sWs vs, a7, a8, a9, a10, a11, a12, a13, a14, a15, a16, a17] := by
  have e1 := ws_ix hi
  have e2 := ws_ix hv
  have w1 := wl (H.wd _ (List.getElem_mem hi))
  have w2 := wl (H'.wd _ (List.getElem_mem hv))
  conv => whnf
  rw [e1]
  conv => whnf
  refine ⟨_, rfl, w1, ?_⟩
  conv => whnf
  rw [e2]
  conv => whnf
  refine ⟨_, rfl, w2, ?_⟩
  exact h
theorem law14 {a b : Str} (D : PEnds) (h : D.nx [a0, a1, a2, a3, a4, a5, a6, a7, a8, a9, a10, some (.fl [.str (lkind a), .str (lkind b)]), some (.sh (.str (hk a b).str)), a13, a14, a15, a16, a17]) : r_law_1a_14 C_inOrder C_showPat C_readPat C_falls C_fillings C_filled C_fits C_kind C_joined C_isLine C_other C_pick C_kind C_long C_deck D [a0, a1, a2, a3, a4, a5, a6, a7, a8, a9, a10, some (.fl [.str (lkind a), .str (lkind b)]), a12, a13, a14, a15, a16, a17] := by
  have ka := kind_is a
  unfold hk at h
  generalize lkind a = x at ka h
  generalize lkind b = y at h
  have ev : ∀ u v : Str, (er (vw (.str u))).eqv (er (vw (.str v))) = decide (u = v) := fun u v => by rw [er_vw, er_vw, eqv_str]
  have ev' : ∀ u v : Str, (er (.str u)).eqv (er (vw (.str v))) = decide (u = v) := fun u v => by rw [er_vw, eqv_str]
  have ev'' : ∀ u v : Str, (er (.str u)).eqv (er (.str v)) = decide (u = v) := fun u v => eqv_str u v
  conv => whnf
  refine ⟨dR (d_str _), ?_⟩
  conv => whnf
  first | rw [ev] | rw [ev'] | rw [ev'']
  by_cases hxy : x = y
  · rw [decide_eq_true hxy]
    rw [if_pos hxy.symm] at h
    conv => whnf
    refine ⟨dR (Nat.zero_le _), ?_⟩
    conv => whnf
    first | rw [ev] | rw [ev'] | rw [ev'']
    rcases ka with ka | ka | ka
    · subst ka
      exact h
    · subst ka
      exact h
    · subst ka
      exact h
  · rw [decide_eq_false hxy]
    rw [if_neg fun e => hxy e.symm] at h
    exact h
theorem law15 {ws : List Str} (H : Has ws) {i : Nat} (hi : i < ws.length) {kk : Hk} (D : PEnds) (h : ∀ a8 : Option O, (a8 = sPl ws) → D.nx [a0, a1, a2, a3, a4, some (.sh (.int (i : Int))), a6, a7, a8, a9, fP ((ofWs ws).take i ++ [.h kk] ++ (ofWs ws).drop (i + 1)), a11, some (.sh (.str kk.str)), a13, a14, a15, a16, a17]) : r_law_1a_15 C_inOrder C_showPat C_readPat C_falls C_fillings C_filled C_fits C_kind C_joined C_isLine C_other C_pick C_kind C_long C_deck D [a0, a1, a2, a3, a4, some (.sh (.int (i : Int))), a6, a7, sPl ws, a9, fP ((ofWs ws).take i ++ [.h kk] ++ (ofWs ws).drop (i + 1)), a11, some (.sh (.str kk.str)), a13, a14, a15, a16, a17] := by
  have hl := H.l1
  have e1 : cutD ((ofWs ws).map enP) none (some (i : Int)) = ((ofWs ws).take i).map enP := by rw [cut_take, List.map_take]
  have e2 : cutD ((ofWs ws).map enP) (some ((i : Int) + 1)) none = ((ofWs ws).drop (i + 1)).map enP := by rw [show ((i : Int) + 1) = ((i + 1 : Nat) : Int) from by omega, cut_drop, List.map_drop]
  have ol : (ofWs ws).length = ws.length := by unfold ofWs; rw [List.length_map]
  have hk := h _ rfl
  conv => whnf
  rw [e1]
  refine ⟨by rw [List.length_map, List.length_take]; show _ + 1 ≤ _; have := sizeLine_eq; omega, ?_⟩
  conv => whnf
  rw [e2]
  refine ⟨by rw [List.length_append, List.length_map, List.length_take, List.length_map, List.length_drop]; show _ + 1 + _ ≤ _; have := sizeLine_eq; omega, ?_⟩
  have em : ((ofWs ws).take i).map enP ++ [Pl.D.tuple [.str "hole", .str kk.str]] ++ ((ofWs ws).drop (i + 1)).map enP = ((ofWs ws).take i ++ [Pt.h kk] ++ (ofWs ws).drop (i + 1)).map enP := by rw [List.map_append, List.map_append]; rfl
  rw [em]
  generalize (ofWs ws).take i ++ [Pt.h kk] ++ (ofWs ws).drop (i + 1) = q at hk
  conv => whnf
  refine ⟨dL (d_pat (d := nwPat q) rfl), ?_⟩
  conv => whnf
  have e9 : ∀ a b : Pl.D, vw a = enPat q → vw b = enPat q → (er a).eqv (er b) = true := fun a b ha hb => (eqv_pat (p := q) (q := q) ha hb).trans (decide_eq_true rfl)
  rw [er_vw, e9 _ _ rfl rfl]
  exact hk
theorem fits_of {ws vs : List Str} (H' : Has vs) (hne : ws ≠ vs) (hl : vs.length = ws.length) : fitsP (ofWs ws) (Txt.join " " vs) = false := by
  unfold fitsP
  rw [H'.sp]
  have key : ∀ ws vs : List Str, fitsWs (ofWs ws) vs = true → ws = vs := by
    intro ws
    induction ws with
    | nil => intro vs h; cases vs with
      | nil => rfl
      | cons _ _ => cases h
    | cons w ws ih => intro vs h; cases vs with
      | nil => cases h
      | cons v vs =>
        have h : (fitsPt (.w w) v && fitsWs (ofWs ws) vs) = true := h
        rw [Bool.and_eq_true] at h
        have h1 : w = v := by
          have := h.1
          unfold fitsPt at this
          first | exact of_decide_eq_true this | exact (of_decide_eq_true this).symm
        rw [ih vs h.2, h1]
  cases e : fitsWs (ofWs ws) vs with
  | false => rfl
  | true => exact absurd (key ws vs e) hne
theorem law16 {ws vs : List Str} (H : Has ws) (H' : Has vs) (hne : ws ≠ vs) (hl : vs.length = ws.length) (D : PEnds) (h : D.nx [a0, a1, a2, a3, sLn ws, a5, a6, sLn vs, sPl ws, sPl vs, a10, a11, a12, a13, a14, a15, a16, a17]) : r_law_1a_16 C_inOrder C_showPat C_readPat C_falls C_fillings C_filled C_fits C_kind C_joined C_isLine C_other C_pick C_kind C_long C_deck D [a0, a1, a2, a3, sLn ws, a5, a6, sLn vs, sPl ws, sPl vs, a10, a11, a12, a13, a14, a15, a16, a17] := by
  have z1 := H.ln.len
  have z2 := H'.ln.len
  have f1 := fits_of H' hne hl
  have f2 := fits_of H (fun e => hne e.symm) hl.symm
  conv => whnf
  refine ⟨ofWs ws, _, rfl, by omega, ?_⟩
  rw [f1]
  conv => whnf
  refine ⟨ofWs vs, _, rfl, by omega, ?_⟩
  rw [f2]
  exact h
structure Two (A : List Str) (k : Hk) (B : List Str) (us : List Str) (u : Str) : Prop where
  e : us = A ++ u :: B
  f : fitsPt (.h k) u = true
  h : Has us
theorem Two.fits {A B us : List Str} {k : Hk} {u : Str} (T : Two A k B us u) : fitsP (midP A k B) (Txt.join " " us) = true := by
  unfold fitsP
  rw [T.h.sp, T.e]
  exact mid_fits T.f A B
theorem Two.falls {A B us ts : List Str} {k : Hk} {u : Str} (T : Two A k B us u) (hne : us ≠ ts) (hts : Has ts) (hl : ts.length = us.length) (ps : List Pat) (hps : ∀ p, p ∈ ps ↔ (p = midP A k B ∨ p = ofWs us ∨ p = ofWs ts)) : falls (Txt.join " " us) ps = some (ofWs us) := by
  refine falls_eq ⟨(hps _).mpr (.inr (.inl rfl)), ?_, fun p hp hf => ?_⟩
  · unfold fitsP; rw [T.h.sp]; exact ofWs_fits us
  · rcases (hps p).mp hp with rfl | rfl | rfl
    · have hi : inAll (ofWs us) (midP A k B) = true := ofWs_in (by rw [T.e]; exact mid_fits T.f A B)
      have hle : (ofWs us).length = (midP A k B).length := by
        rw [mid_len]
        unfold ofWs
        rw [List.length_map, T.e, List.length_append, List.length_cons]; omega
      refine flt_asym (flt_lo (in_lolt hi hle fun e => ?_))
      have hm : Pt.h k ∈ ofWs us := by rw [e]; unfold midP; simp
      unfold ofWs at hm
      obtain ⟨w, _, hw⟩ := List.mem_map.mp hm
      cases hw
    · exact flt_self _
    · rw [fits_of T.h (fun e => hne e.symm) hl.symm] at hf
      cases hf
set_option maxHeartbeats 2000000 in
theorem law17 {ws vs A B : List Str} {k : Hk} {a b : Str} (T1 : Two A k B ws a) (T2 : Two A k B vs b) (hne : ws ≠ vs) (hk : OkPat (midP A k B)) {i : Nat} (hi : i < ws.length) (hv : i < vs.length) (ea : ws[i] = a) (eb : vs[i] = b) (D : PEnds) (h : ∀ a13 a14 a17, D.nx [a0, a1, a2, sWs ws, sLn ws, some (.sh (.int (i : Int))), sWs vs, sLn vs, sPl ws, sPl vs, some (.sh (nwPat (midP A k B))), a11, a12, a13, a14, a15, a16, a17]) :
    r_law_1a_17 C_inOrder C_showPat C_readPat C_falls C_fillings C_filled C_fits C_kind C_joined C_isLine C_other C_pick C_kind C_long C_deck D [a0, a1, a2, sWs ws, sLn ws, some (.sh (.int (i : Int))), sWs vs, sLn vs, sPl ws, sPl vs, fP (midP A k B), a11, a12, a13, a14, a15, a16, a17] := by
  have i1 := ws_ix hi
  have i2 := ws_ix hv
  rw [ea] at i1
  rw [eb] at i2
  have hl : vs.length = ws.length := by rw [T1.e, T2.e, List.length_append, List.length_append]; rfl
  refine zFor_of (ds := [.tuple [.str (Txt.join " " ws), .str a], .tuple [.str (Txt.join " " vs), .str b]]) (ρ1 := [a0, a1, a2, sWs ws, sLn ws, some (.sh (.int (i : Int))), sWs vs, sLn vs, sPl ws, sPl vs, fP (midP A k B), a11, a12, a13, a14, a15, a16, a17]) (fun K hK => ?_) ?_
  · conv => whnf
    rw [i1]
    conv => whnf
    rw [i2]
    exact hK
  have pk : ∀ p ∈ [midP A k B, ofWs vs, ofWs ws], OkPat p := fun p hp => by
    simp only [List.mem_cons, List.not_mem_nil, or_false] at hp
    rcases hp with rfl | rfl | rfl
    · exact hk
    · exact T2.h.ok
    · exact T1.h.ok
  refine loop_ind (fun dr ρ => (∀ d ∈ dr, ∃ us u, d = .tuple [.str (Txt.join " " us), .str u] ∧ Two A k B us u ∧ falls (Txt.join " " us) [midP A k B, ofWs vs, ofWs ws] = some (ofWs us)) ∧ ∃ a10 a13 a14 a17, (a10 = fP (midP A k B) ∧ dr ≠ [] ∨ a10 = some (.sh (nwPat (midP A k B)))) ∧ ρ = [a0, a1, a2, sWs ws, sLn ws, some (.sh (.int (i : Int))), sWs vs, sLn vs, sPl ws, sPl vs, a10, a11, a12, a13, a14, a15, a16, a17]) ?_ ?_ _ _ ⟨fun d hd => ?_, _, _, _, _, .inl ⟨rfl, by simp⟩, rfl⟩
  · rintro ρ ⟨_, a10, a13, a14, a17, ⟨_, e⟩ | rfl, rfl⟩
    · exact absurd rfl e
    · exact h _ _ _
  · rintro d dr ρ R ⟨hq, a10, a13, a14, a17, h10, rfl⟩ hR
    obtain ⟨us, u, rfl, T, hfa⟩ := hq d (List.mem_cons_self ..)
    have fin : ∀ a13 a14 a17, R [a0, a1, a2, sWs ws, sLn ws, some (.sh (.int (i : Int))), sWs vs, sLn vs, sPl ws, sPl vs, some (.sh (nwPat (midP A k B))), a11, a12, a13, a14, a15, a16, a17] := fun a13 a14 a17 => hR _ ⟨fun d hd => hq d (List.mem_cons_of_mem _ hd), _, _, _, _, .inr rfl, rfl⟩
    have zl := T.h.ln
    have hft := T.fits
    have hsp := T.h.sp
    have hu : IsWd u := T.h.wd u (by rw [T.e]; simp)
    have hw := mid_fillW (k := k) (u := u) A B
    rw [← T.e] at hw
    have hp := mid_fillP T.f A B
    rw [← T.e] at hp
    rcases h10 with ⟨rfl, _⟩ | rfl
    all_goals
      conv => whnf
      refine ⟨midP A k B, _, rfl, zl, hft, ?_⟩
      rw [hsp, hw]
      conv => whnf
      refine ⟨dL (d_strs [u]), ?_⟩
      have e1 : (er (vw (.nl ([u].map Pl.D.str)))).eqv (er (vw (.nl [.str u]))) = true := (eqv_strs [u] [u]).trans (decide_eq_true rfl)
      conv => whnf
      rw [e1]
      conv => whnf
      refine ⟨midP A k B, [u], us, rfl, hk, by simp, fun f hf => by rw [List.mem_singleton.mp hf]; exact hu, hp, ?_⟩
      conv => whnf
      refine ⟨dR (d_str _), ?_⟩
      have e2 : (er (vw (.str (Txt.join " " us)))).eqv (er (vw (.str (Txt.join " " us)))) = true := by rw [er_vw, eqv_str]; exact decide_eq_true rfl
      conv => whnf
      rw [e2]
      conv => whnf
      refine ⟨_, _, [midP A k B, ofWs vs, ofWs ws], rfl, by have := zl.len; omega, rfl, pk, by simp, ?_⟩
      rw [hfa]
      conv => whnf
      refine ⟨by decide, ?_⟩
      conv => whnf
      refine ⟨by have := zl.len; have := sizeLine_eq; omega, ?_⟩
      rw [hsp]
      conv => whnf
      refine ⟨by rw [List.length_map]; exact Nat.le_of_lt (small (by have := T.h.l1; omega)), ?_⟩
      refine lc_mt id Pl.D.str (fun w => some (enP (.w w))) (fun w => True) [a0, a1, a2, sWs ws, sLn ws, some (.sh (.int (i : Int))), sWs vs, sLn vs, sPl ws, sPl vs, some (.sh (nwPat (midP A k B))), a11, a12, some (.sh (.str (Txt.join " " us))), some (.sh (.str u)), a15, a16, a17] ?_ _ us _ (by rw [List.map_id]) (fun _ _ => trivial) ?_
      · rintro d w hd _ R2 acc hR2
        have hd : d = .str w := hd
        subst hd
        exact hR2
      rw [fm_some, List.nil_append, ofWs_enP]
      conv => whnf
      refine ⟨dL (d_enF (some (ofWs us))), ?_⟩
      conv => whnf
      rw [show (er (vw (enF (some (ofWs us))))).eqv (er (vw (.nl ((ofWs us).map enP)))) = true from by rw [er_vw, er_vw]; exact (eqv_pat (d := nwPat (ofWs us)) (e := nwPat (ofWs us)) rfl rfl).trans (decide_eq_true rfl)]
      exact fin _ _ _
  · have hd : d ∈ [Pl.D.tuple [.str (Txt.join " " ws), .str a], .tuple [.str (Txt.join " " vs), .str b]] := hd
    simp only [List.mem_cons, List.not_mem_nil, or_false] at hd
    rcases hd with rfl | rfl
    · exact ⟨ws, a, rfl, T1, T1.falls hne T2.h hl _ fun p => by simp only [List.mem_cons, List.not_mem_nil, or_false]; exact ⟨fun h => by rcases h with h | h | h <;> simp [h], fun h => by rcases h with h | h | h <;> simp [h]⟩⟩
    · exact ⟨vs, b, rfl, T2, T2.falls (fun e => hne e.symm) T1.h hl.symm _ fun p => by simp only [List.mem_cons, List.not_mem_nil, or_false]⟩
theorem law18 {p q : Pat} (hp : OkPat p) (hq : OkPat q) (p1 : 1 ≤ p.length) (p2 : p.length ≤ 12) (q1 : 1 ≤ q.length) (q2 : q.length ≤ 12) (D : PEnds) (h : D.nx [a0, a1, a2, a3, a4, a5, a6, a7, some (.sh (.nl (q.map enP))), a9, some (.sh (.nl (p.map enP))), a11, a12, a13, a14, a15, a16, a17]) : r_law_1a_18 C_inOrder C_showPat C_readPat C_falls C_fillings C_filled C_fits C_kind C_joined C_isLine C_other C_pick C_kind C_long C_deck D [a0, a1, a2, a3, a4, a5, a6, a7, some (.sh (.nl (q.map enP))), a9, some (.sh (.nl (p.map enP))), a11, a12, a13, a14, a15, a16, a17] := by
  have e9 : ∀ r : Pat, (er (vw (.nl (r.map enP)))).eqv (er (vw (.nl (r.map enP)))) = true := fun r => by rw [er_vw]; exact (eqv_pat (d := nwPat r) (e := nwPat r) rfl rfl).trans (decide_eq_true rfl)
  conv => whnf
  refine ⟨p, rfl, hp, ?_⟩
  conv => whnf
  refine ⟨p, rfl, hp, p1, p2, ?_⟩
  conv => whnf
  refine ⟨dL (d_pat (d := enPat p) rfl), ?_⟩
  conv => whnf
  rw [e9]
  conv => whnf
  refine ⟨q, rfl, hq, ?_⟩
  conv => whnf
  refine ⟨q, rfl, hq, q1, q2, ?_⟩
  conv => whnf
  refine ⟨dL (d_pat (d := enPat q) rfl), ?_⟩
  conv => whnf
  rw [e9]
  exact h
theorem law19 {ws vs : List Str} (H : Has ws) (H' : Has vs) {i : Nat} (hi : i < ws.length) (hv : i < vs.length) (D : PEnds) (h : D.nx [a0, a1, a2, sWs ws, a4, some (.sh (.int (i : Int))), sWs vs, a7, a8, a9, a10, a11, a12, a13, a14, some (.fl [wplD ws[i], wplD vs[i]]), a16, a17]) : r_law_1a_19 C_inOrder C_showPat C_readPat C_falls C_fillings C_filled C_fits C_kind C_joined C_isLine C_other C_pick C_kind C_long C_deck D [a0, a1, a2, sWs ws, a4, some (.sh (.int (i : Int))), sWs vs, a7, a8, a9, a10, a11, a12, a13, a14, a15, a16, a17] := by
  have i1 := ws_ix hi
  have i2 := ws_ix hv
  have w1 := wl (H.wd _ (List.getElem_mem hi))
  have w2 := wl (H'.wd _ (List.getElem_mem hv))
  conv => whnf
  rw [i1]
  conv => whnf
  refine ⟨w1, ?_⟩
  conv => whnf
  rw [i1]
  conv => whnf
  rw [i2]
  conv => whnf
  refine ⟨w2, ?_⟩
  conv => whnf
  rw [i2]
  exact h
theorem law20 {ws vs A B : List Str} {a b : Str} (H : Has ws) (H' : Has vs) (e1 : ws = A ++ a :: B) (e2 : vs = A ++ b :: B) (hne : b ≠ a) (D : PEnds) (h : D.nx [a0, a1, a2, a3, sLn ws, a5, a6, sLn vs, a8, a9, a10, a11, a12, a13, a14, some (.fl [wplD a, wplD b]), a16, a17]) : r_law_1a_20 C_inOrder C_showPat C_readPat C_falls C_fillings C_filled C_fits C_kind C_joined C_isLine C_other C_pick C_kind C_long C_deck D [a0, a1, a2, a3, sLn ws, a5, a6, sLn vs, a8, a9, a10, a11, a12, a13, a14, some (.fl [wplD a, wplD b]), a16, a17] := by
  have z1 := H.ln
  have z2 := H'.ln
  have hlt := llt_two (z1 := Txt.join " " ws) (z2 := Txt.join " " vs) (by rw [H.sp, e1]) (by rw [H'.sp, e2]) hne
  have ho := order_two (Txt.join " " ws) (Txt.join " " vs)
  conv => whnf
  refine ⟨[Txt.join " " ws, Txt.join " " vs], rfl, by simp, fun z hz => ?_, ?_⟩
  · simp only [List.mem_cons, List.not_mem_nil, or_false] at hz
    rcases hz with rfl | rfl
    · exact z1
    · exact z2
  rw [ho, hlt]
  have hal : PySem.W.alike (er (wplD b)) (er (wplD a)) = true := by rw [er_wpl, er_wpl]; exact PySem.W.DatumOrd.alike _ _
  conv => whnf
  refine ⟨⟨by rw [er_vw, er_vw]; exact hal, by rw [er_vw, er_wpl]; exact PySem.W.DatumOrd.notNone _, by rw [er_vw, er_vw, er_wpl]; exact dL (Nat.le_trans (PySem.W.Datum.depth_le _) (by decide))⟩, ?_⟩
  rw [er_vw, er_vw]
  cases PySem.W.dataLt (er (wplD b)) (er (wplD a))
  all_goals
    conv => whnf
    refine ⟨dL (d_strs _), ?_⟩
    conv => whnf
    first
    | rw [show ∀ x y : Str, (er (vw (.nl ((if false = true then [y, x] else [x, y]).map Pl.D.str)))).eqv (er (vw (.nl [.str x, .str y]))) = true from fun x y => (eqv_strs [x, y] [x, y]).trans (decide_eq_true rfl)]
    | rw [show ∀ x y : Str, (er (vw (.nl ((if true = true then [y, x] else [x, y]).map Pl.D.str)))).eqv (er (vw (.nl [.str y, .str x]))) = true from fun x y => (eqv_strs [y, x] [y, x]).trans (decide_eq_true rfl)]
    exact h
end
def C_law : Con := fun os post => ∃ ns : List Int, os = [.sh (.list (ns.map .int))] ∧ ns.length ≤ 63 ∧ post (.sh (.bool true)) os
theorem h_law : ∀ os post, C_law os post → os.length = 1 ∧ r_law C_inOrder C_showPat C_readPat C_falls C_fillings C_filled C_fits C_kind C_joined C_isLine C_other C_pick C_kind C_long C_deck (dEnds [] os post) (start0 N_law.length os) := by
  rintro os post ⟨ns, rfl, hn, k⟩
  refine ⟨rfl, ?_⟩
  refine zSeq_in ?_
  refine zFor_of (ds := (ns.map Pl.D.int ++ [Pl.D.int 0]).take 3) (ρ1 := [some (.sh (.list (ns.map .int))), none, none, none, none, none, none, none, none, none, none, none, none, none, none, none, none, none]) (fun K hK => ?_) ?_
  · conv => whnf
    refine ⟨by rw [List.length_map]; have := sizeLine_eq; show _ + 1 ≤ _; omega, ?_⟩
    conv => whnf
    rw [show cutD (ns.map Pl.D.int ++ [Pl.D.int 0]) none (some 3) = (ns.map Pl.D.int ++ [Pl.D.int 0]).take 3 from cut_take _ 3]
    exact hK
  refine loop_ind (fun ds ρ => (∀ d ∈ ds, ∃ i : Int, d = .int i) ∧ ∃ a1 a2 a3 a4 a5 a6 a7 a8 a9 a10 a11 a12 a13 a14 a15 a16 a17, ρ = [some (.sh (.list (ns.map .int))), a1, a2, a3, a4, a5, a6, a7, a8, a9, a10, a11, a12, a13, a14, a15, a16, a17]) ?_ ?_ _ _ ⟨?_, none, none, none, none, none, none, none, none, none, none, none, none, none, none, none, none, none, rfl⟩
  · rintro ρ ⟨_, a1, a2, a3, a4, a5, a6, a7, a8, a9, a10, a11, a12, a13, a14, a15, a16, a17, rfl⟩
    exact k
  · rintro x ds ρ R ⟨hq, a1, a2, a3, a4, a5, a6, a7, a8, a9, a10, a11, a12, a13, a14, a15, a16, a17, rfl⟩ hR
    obtain ⟨cell, rfl⟩ := hq x (List.mem_cons_self ..)
    refine zSeq_in (law1 _ fun d hd => ?_)
    dsimp only
    refine zSeq_in (law2 (n := 50000) (hd.le (by omega)) _ fun ws d1 H hd1 => ?_)
    dsimp only
    refine zSeq_in (law3 H _ ?_)
    dsimp only
    refine zSeq_in (law4 H _ ?_)
    dsimp only
    refine zSeq_in (law5 (n := 40000) (hd1.le (by omega)) H _ fun i d2 hi hd2 => ?_)
    dsimp only
    refine zSeq_in (law6 H _ ?_)
    dsimp only
    refine zSeq_in (law7 (n := 30000) (hd2.le (by omega)) H hi _ fun v d3 hv hne hd3 => ?_)
    have hvl : (ws.set i v).length = ws.length := List.length_set ..
    have H' : Has (ws.set i v) := ⟨by rw [hvl]; exact H.l0, by rw [hvl]; exact H.l1, fun w hw => by
      rcases List.mem_or_eq_of_mem_set hw with h | h
      · exact H.wd w h
      · rw [h]; exact hv⟩
    have hv' : i < (ws.set i v).length := by rw [hvl]; exact hi
    have gv : (ws.set i v)[i] = v := List.getElem_set_self ..
    have wne : ws ≠ ws.set i v := fun e => by
      have h := congrArg (fun l : List Str => l[i]?) e
      simp only [List.getElem?_eq_getElem hi, List.getElem?_eq_getElem hv', gv] at h
      exact hne (Option.some.inj h).symm
    have ew : ws = ws.take i ++ ws[i] :: ws.drop (i + 1) := by rw [← List.drop_eq_getElem_cons hi, List.take_append_drop]
    have ev : ws.set i v = ws.take i ++ v :: ws.drop (i + 1) := List.set_eq_take_append_cons_drop .. |>.trans (if_pos hi)
    have hj := joinP_one hi hne
    rw [mid_of] at hj
    dsimp only
    refine zSeq_in (law8 H' _ ?_)
    dsimp only
    refine zSeq_in (law9 H H' wne _ ?_)
    dsimp only
    refine zSeq_in (law10 H _ ?_)
    dsimp only
    refine zSeq_in (law11 H' _ ?_)
    dsimp only
    refine zSeq_in (law12 H H' hvl _ ?_)
    dsimp only
    refine zSeq_in (law13 H H' hi hv' _ ?_)
    rw [gv, hj, ← mid_of]
    dsimp only
    refine zSeq_in (law14 _ ?_)
    dsimp only
    refine zSeq_in (law15 H hi _ fun b8 hb8 => ?_)
    subst hb8
    rw [mid_of]
    have hmk : OkPat (midP (ws.take i) (hk ws[i] v) (ws.drop (i + 1))) := by
      rw [← hj]; exact joinP_ok H.ok
    have hml : (midP (ws.take i) (hk ws[i] v) (ws.drop (i + 1))).length = ws.length := by
      rw [mid_len, List.length_take, List.length_drop]; omega
    have ol : (ofWs ws).length = ws.length := by unfold ofWs; rw [List.length_map]
    have hf := hk_fits ws[i] v
    dsimp only
    refine zSeq_in (law16 H H' wne hvl _ ?_)
    dsimp only
    refine zSeq_in (law17 ⟨ew, hf.1, H⟩ ⟨ev, hf.2, H'⟩ wne hmk hi hv' rfl gv _ fun b13 b14 b17 => ?_)
    dsimp only
    refine zSeq_in (law18 hmk H.ok (by rw [hml]; exact H.l0) (by rw [hml]; exact H.l1) (by rw [ol]; exact H.l0) (by rw [ol]; exact H.l1) _ ?_)
    dsimp only
    refine zSeq_in (law19 H H' hi hv' _ ?_)
    rw [gv]
    dsimp only
    refine zSeq_in (law20 H H' ew ev hne _ ?_)
    exact hR _ ⟨fun d hd => hq d (List.mem_cons_of_mem _ hd), _, _, _, _, _, _, _, _, _, _, _, _, _, _, _, _, _, rfl⟩
  · intro d hd
    rcases List.mem_append.mp (mem_take hd) with hd | hd
    · obtain ⟨i, _, rfl⟩ := List.mem_map.mp hd
      exact ⟨i, rfl⟩
    · exact ⟨0, List.mem_singleton.mp hd⟩
end Tx
namespace Tx
open PySem PySem.Spec L2 Pl
set_option maxHeartbeats 0 in
theorem all_mk {P : Program} {w : World} {K : PySem.W.Frag} {h : Heap} {mg : Str → Option Value} {fa : Addr} (X : K.In h) (G : h.Ns mainGlobals mg) (hfa : mg "law" = some (.ref fa))
    {f1 f2 f3 f4 f5 f6 f7 f8 f9 f10 f11 f12 f13 f14 f15 f16 f17 f18 f19 f20 f21 f22 f23 f24 f25 f26 f27 f28 f29 f30 ag2 : Addr} {od1 an1 od2 an2 od3 an3 od4 an4 od5 an5 od6 an6 od7 an7 od8 an8 od9 an9 od10 an10 od11 an11 od12 an12 od13 an13 od14 an14 od15 an15 od16 an16 od17 an17 od18 an18 od19 an19 od20 an20 od21 an21 od22 an22 od23 an23 od24 an24 od25 an25 od26 an26 od27 an27 od28 an28 od29 an29 od30 an30 : Option Addr} {sl1 sl2 sl3 sl4 sl5 sl6 sl7 sl8 sl9 sl10 sl11 sl12 sl13 sl14 sl15 sl16 sl17 sl18 sl19 sl20 sl21 sl22 sl23 sl24 sl25 sl26 sl27 sl28 sl29 sl30 sg2 : Array (Option Value)} {oc1 kV1 dc1 pm1 cd1 ct1 oc2 kV2 dc2 pm2 cd2 ct2 oc3 kV3 dc3 pm3 cd3 ct3 oc4 kV4 dc4 pm4 cd4 ct4 oc5 kV5 dc5 pm5 cd5 ct5 oc6 kV6 dc6 pm6 cd6 ct6 oc7 kV7 dc7 pm7 cd7 ct7 oc8 kV8 dc8 pm8 cd8 ct8 oc9 kV9 dc9 pm9 cd9 ct9 oc10 kV10 dc10 pm10 cd10 ct10 oc11 kV11 dc11 pm11 cd11 ct11 oc12 kV12 dc12 pm12 cd12 ct12 oc13 kV13 dc13 pm13 cd13 ct13 oc14 kV14 dc14 pm14 cd14 ct14 oc15 kV15 dc15 pm15 cd15 ct15 oc16 kV16 dc16 pm16 cd16 ct16 oc17 kV17 dc17 pm17 cd17 ct17 oc18 kV18 dc18 pm18 cd18 ct18 oc19 kV19 dc19 pm19 cd19 ct19 oc20 kV20 dc20 pm20 cd20 ct20 oc21 kV21 dc21 pm21 cd21 ct21 oc22 kV22 dc22 pm22 cd22 ct22 oc23 kV23 dc23 pm23 cd23 ct23 oc24 kV24 dc24 pm24 cd24 ct24 oc25 kV25 dc25 pm25 cd25 ct25 oc26 kV26 dc26 pm26 cd26 ct26 oc27 kV27 dc27 pm27 cd27 ct27 oc28 kV28 dc28 pm28 cd28 ct28 oc29 kV29 dc29 pm29 cd29 ct29 oc30 kV30 dc30 pm30 cd30 ct30 : Value} {its2 : Array Value} {ng2 : Nat} {tg1 : Tok} {tg3 : Tok} {tg4 : Tok}
    (a1 : PySem.W.nsIn K mainGlobals "is_word" = some (some (.ref f1)))
    (l1 : K.lookup f1 = some ⟨oc1, od1, .func (PySem.W.fnOf "is_word" "is_word" (defArgs s_is_word) (defBody s_is_word) (defScope s_is_word) .none kV1 dc1 pm1 an1 cd1 ct1), sl1⟩)
    (c1 : PySem.W.codeIn K cd1 "is_word" = true)
    (k1 : PySem.W.keepIn K (.ref f1) = true)
    (a2 : PySem.W.nsIn K mainGlobals "kind_of" = some (some (.ref f2)))
    (l2 : K.lookup f2 = some ⟨oc2, od2, .func (PySem.W.fnOf "kind_of" "kind_of" (defArgs s_kind_of) (defBody s_kind_of) (defScope s_kind_of) .none kV2 dc2 pm2 an2 cd2 ct2), sl2⟩)
    (c2 : PySem.W.codeIn K cd2 "kind_of" = true)
    (k2 : PySem.W.keepIn K (.ref f2) = true)
    (a3 : PySem.W.nsIn K mainGlobals "words_of" = some (some (.ref f3)))
    (l3 : K.lookup f3 = some ⟨oc3, od3, .func (PySem.W.fnOf "words_of" "words_of" (defArgs s_words_of) (defBody s_words_of) (defScope s_words_of) .none kV3 dc3 pm3 an3 cd3 ct3), sl3⟩)
    (c3 : PySem.W.codeIn K cd3 "words_of" = true)
    (k3 : PySem.W.keepIn K (.ref f3) = true)
    (a4 : PySem.W.nsIn K mainGlobals "word_place" = some (some (.ref f4)))
    (l4 : K.lookup f4 = some ⟨oc4, od4, .func (PySem.W.fnOf "word_place" "word_place" (defArgs s_word_place) (defBody s_word_place) (defScope s_word_place) .none kV4 dc4 pm4 an4 cd4 ct4), sl4⟩)
    (c4 : PySem.W.codeIn K cd4 "word_place" = true)
    (k4 : PySem.W.keepIn K (.ref f4) = true)
    (a5 : PySem.W.nsIn K mainGlobals "looseness" = some (some (.ref f5)))
    (l5 : K.lookup f5 = some ⟨oc5, od5, .func (PySem.W.fnOf "looseness" "looseness" (defArgs s_looseness) (defBody s_looseness) (defScope s_looseness) .none kV5 dc5 pm5 an5 cd5 ct5), sl5⟩)
    (c5 : PySem.W.codeIn K cd5 "looseness" = true)
    (k5 : PySem.W.keepIn K (.ref f5) = true)
    (a6 : PySem.W.nsIn K mainGlobals "show_part" = some (some (.ref f6)))
    (l6 : K.lookup f6 = some ⟨oc6, od6, .func (PySem.W.fnOf "show_part" "show_part" (defArgs s_show_part) (defBody s_show_part) (defScope s_show_part) .none kV6 dc6 pm6 an6 cd6 ct6), sl6⟩)
    (c6 : PySem.W.codeIn K cd6 "show_part" = true)
    (k6 : PySem.W.keepIn K (.ref f6) = true)
    (a7 : PySem.W.nsIn K mainGlobals "read_part" = some (some (.ref f7)))
    (l7 : K.lookup f7 = some ⟨oc7, od7, .func (PySem.W.fnOf "read_part" "read_part" (defArgs s_read_part) (defBody s_read_part) (defScope s_read_part) .none kV7 dc7 pm7 an7 cd7 ct7), sl7⟩)
    (c7 : PySem.W.codeIn K cd7 "read_part" = true)
    (k7 : PySem.W.keepIn K (.ref f7) = true)
    (a8 : PySem.W.nsIn K mainGlobals "_law_deck" = some (some (.ref f8)))
    (l8 : K.lookup f8 = some ⟨oc8, od8, .func (PySem.W.fnOf "_law_deck" "_law_deck" (defArgs s__law_deck) (defBody s__law_deck) (defScope s__law_deck) .none kV8 dc8 pm8 an8 cd8 ct8), sl8⟩)
    (c8 : PySem.W.codeIn K cd8 "_law_deck" = true)
    (k8 : PySem.W.keepIn K (.ref f8) = true)
    (a9 : PySem.W.nsIn K mainGlobals "_law_pick" = some (some (.ref f9)))
    (l9 : K.lookup f9 = some ⟨oc9, od9, .func (PySem.W.fnOf "_law_pick" "_law_pick" (defArgs s__law_pick) (defBody s__law_pick) (defScope s__law_pick) .none kV9 dc9 pm9 an9 cd9 ct9), sl9⟩)
    (c9 : PySem.W.codeIn K cd9 "_law_pick" = true)
    (k9 : PySem.W.keepIn K (.ref f9) = true)
    (a10 : PySem.W.nsIn K mainGlobals "_law_kind" = some (some (.ref f10)))
    (l10 : K.lookup f10 = some ⟨oc10, od10, .func (PySem.W.fnOf "_law_kind" "_law_kind" (defArgs s__law_kind) (defBody s__law_kind) (defScope s__law_kind) .none kV10 dc10 pm10 an10 cd10 ct10), sl10⟩)
    (c10 : PySem.W.codeIn K cd10 "_law_kind" = true)
    (k10 : PySem.W.keepIn K (.ref f10) = true)
    (a11 : PySem.W.nsIn K mainGlobals "is_line" = some (some (.ref f11)))
    (l11 : K.lookup f11 = some ⟨oc11, od11, .func (PySem.W.fnOf "is_line" "is_line" (defArgs s_is_line) (defBody s_is_line) (defScope s_is_line) .none kV11 dc11 pm11 an11 cd11 ct11), sl11⟩)
    (c11 : PySem.W.codeIn K cd11 "is_line" = true)
    (k11 : PySem.W.keepIn K (.ref f11) = true)
    (a12 : PySem.W.nsIn K mainGlobals "line_place" = some (some (.ref f12)))
    (l12 : K.lookup f12 = some ⟨oc12, od12, .func (PySem.W.fnOf "line_place" "line_place" (defArgs s_line_place) (defBody s_line_place) (defScope s_line_place) .none kV12 dc12 pm12 an12 cd12 ct12), sl12⟩)
    (c12 : PySem.W.codeIn K cd12 "line_place" = true)
    (k12 : PySem.W.keepIn K (.ref f12) = true)
    (a13 : PySem.W.nsIn K mainGlobals "is_part" = some (some (.ref f13)))
    (l13 : K.lookup f13 = some ⟨oc13, od13, .func (PySem.W.fnOf "is_part" "is_part" (defArgs s_is_part) (defBody s_is_part) (defScope s_is_part) .none kV13 dc13 pm13 an13 cd13 ct13), sl13⟩)
    (c13 : PySem.W.codeIn K cd13 "is_part" = true)
    (k13 : PySem.W.keepIn K (.ref f13) = true)
    (a14 : PySem.W.nsIn K mainGlobals "fits_part" = some (some (.ref f14)))
    (l14 : K.lookup f14 = some ⟨oc14, od14, .func (PySem.W.fnOf "fits_part" "fits_part" (defArgs s_fits_part) (defBody s_fits_part) (defScope s_fits_part) .none kV14 dc14 pm14 an14 cd14 ct14), sl14⟩)
    (c14 : PySem.W.codeIn K cd14 "fits_part" = true)
    (k14 : PySem.W.keepIn K (.ref f14) = true)
    (a15 : PySem.W.nsIn K mainGlobals "joined_parts" = some (some (.ref f15)))
    (l15 : K.lookup f15 = some ⟨oc15, od15, .func (PySem.W.fnOf "joined_parts" "joined_parts" (defArgs s_joined_parts) (defBody s_joined_parts) (defScope s_joined_parts) .none kV15 dc15 pm15 an15 cd15 ct15), sl15⟩)
    (c15 : PySem.W.codeIn K cd15 "joined_parts" = true)
    (k15 : PySem.W.keepIn K (.ref f15) = true)
    (a16 : PySem.W.nsIn K mainGlobals "pattern_place" = some (some (.ref f16)))
    (l16 : K.lookup f16 = some ⟨oc16, od16, .func (PySem.W.fnOf "pattern_place" "pattern_place" (defArgs s_pattern_place) (defBody s_pattern_place) (defScope s_pattern_place) .none kV16 dc16 pm16 an16 cd16 ct16), sl16⟩)
    (c16 : PySem.W.codeIn K cd16 "pattern_place" = true)
    (k16 : PySem.W.keepIn K (.ref f16) = true)
    (a17 : PySem.W.nsIn K mainGlobals "show_pattern" = some (some (.ref f17)))
    (l17 : K.lookup f17 = some ⟨oc17, od17, .func (PySem.W.fnOf "show_pattern" "show_pattern" (defArgs s_show_pattern) (defBody s_show_pattern) (defScope s_show_pattern) .none kV17 dc17 pm17 an17 cd17 ct17), sl17⟩)
    (c17 : PySem.W.codeIn K cd17 "show_pattern" = true)
    (k17 : PySem.W.keepIn K (.ref f17) = true)
    (a18 : PySem.W.nsIn K mainGlobals "_law_long" = some (some (.ref f18)))
    (l18 : K.lookup f18 = some ⟨oc18, od18, .func (PySem.W.fnOf "_law_long" "_law_long" (defArgs s__law_long) (defBody s__law_long) (defScope s__law_long) .none kV18 dc18 pm18 an18 cd18 ct18), sl18⟩)
    (c18 : PySem.W.codeIn K cd18 "_law_long" = true)
    (k18 : PySem.W.keepIn K (.ref f18) = true)
    (a19 : PySem.W.nsIn K mainGlobals "_law_other" = some (some (.ref f19)))
    (l19 : K.lookup f19 = some ⟨oc19, od19, .func (PySem.W.fnOf "_law_other" "_law_other" (defArgs s__law_other) (defBody s__law_other) (defScope s__law_other) .none kV19 dc19 pm19 an19 cd19 ct19), sl19⟩)
    (c19 : PySem.W.codeIn K cd19 "_law_other" = true)
    (k19 : PySem.W.keepIn K (.ref f19) = true)
    (a20 : PySem.W.nsIn K mainGlobals "in_order" = some (some (.ref f20)))
    (l20 : K.lookup f20 = some ⟨oc20, od20, .func (PySem.W.fnOf "in_order" "in_order" (defArgs s_in_order) (defBody s_in_order) (defScope s_in_order) .none kV20 dc20 pm20 an20 cd20 ct20), sl20⟩)
    (c20 : PySem.W.codeIn K cd20 "in_order" = true)
    (k20 : PySem.W.keepIn K (.ref f20) = true)
    (a21 : PySem.W.nsIn K mainGlobals "is_pattern" = some (some (.ref f21)))
    (l21 : K.lookup f21 = some ⟨oc21, od21, .func (PySem.W.fnOf "is_pattern" "is_pattern" (defArgs s_is_pattern) (defBody s_is_pattern) (defScope s_is_pattern) .none kV21 dc21 pm21 an21 cd21 ct21), sl21⟩)
    (c21 : PySem.W.codeIn K cd21 "is_pattern" = true)
    (k21 : PySem.W.keepIn K (.ref f21) = true)
    (a22 : PySem.W.nsIn K mainGlobals "fits" = some (some (.ref f22)))
    (l22 : K.lookup f22 = some ⟨oc22, od22, .func (PySem.W.fnOf "fits" "fits" (defArgs s_fits) (defBody s_fits) (defScope s_fits) .none kV22 dc22 pm22 an22 cd22 ct22), sl22⟩)
    (c22 : PySem.W.codeIn K cd22 "fits" = true)
    (k22 : PySem.W.keepIn K (.ref f22) = true)
    (a23 : PySem.W.nsIn K mainGlobals "filled" = some (some (.ref f23)))
    (l23 : K.lookup f23 = some ⟨oc23, od23, .func (PySem.W.fnOf "filled" "filled" (defArgs s_filled) (defBody s_filled) (defScope s_filled) .none kV23 dc23 pm23 an23 cd23 ct23), sl23⟩)
    (c23 : PySem.W.codeIn K cd23 "filled" = true)
    (k23 : PySem.W.keepIn K (.ref f23) = true)
    (a24 : PySem.W.nsIn K mainGlobals "joined" = some (some (.ref f24)))
    (l24 : K.lookup f24 = some ⟨oc24, od24, .func (PySem.W.fnOf "joined" "joined" (defArgs s_joined) (defBody s_joined) (defScope s_joined) .none kV24 dc24 pm24 an24 cd24 ct24), sl24⟩)
    (c24 : PySem.W.codeIn K cd24 "joined" = true)
    (k24 : PySem.W.keepIn K (.ref f24) = true)
    (a25 : PySem.W.nsIn K mainGlobals "ordered" = some (some (.ref f25)))
    (l25 : K.lookup f25 = some ⟨oc25, od25, .func (PySem.W.fnOf "ordered" "ordered" (defArgs s_ordered) (defBody s_ordered) (defScope s_ordered) .none kV25 dc25 pm25 an25 cd25 ct25), sl25⟩)
    (c25 : PySem.W.codeIn K cd25 "ordered" = true)
    (k25 : PySem.W.keepIn K (.ref f25) = true)
    (a26 : PySem.W.nsIn K mainGlobals "fillings" = some (some (.ref f26)))
    (l26 : K.lookup f26 = some ⟨oc26, od26, .func (PySem.W.fnOf "fillings" "fillings" (defArgs s_fillings) (defBody s_fillings) (defScope s_fillings) .none kV26 dc26 pm26 an26 cd26 ct26), sl26⟩)
    (c26 : PySem.W.codeIn K cd26 "fillings" = true)
    (k26 : PySem.W.keepIn K (.ref f26) = true)
    (a27 : PySem.W.nsIn K mainGlobals "narrowest" = some (some (.ref f27)))
    (l27 : K.lookup f27 = some ⟨oc27, od27, .func (PySem.W.fnOf "narrowest" "narrowest" (defArgs s_narrowest) (defBody s_narrowest) (defScope s_narrowest) .none kV27 dc27 pm27 an27 cd27 ct27), sl27⟩)
    (c27 : PySem.W.codeIn K cd27 "narrowest" = true)
    (k27 : PySem.W.keepIn K (.ref f27) = true)
    (a28 : PySem.W.nsIn K mainGlobals "read_pattern" = some (some (.ref f28)))
    (l28 : K.lookup f28 = some ⟨oc28, od28, .func (PySem.W.fnOf "read_pattern" "read_pattern" (defArgs s_read_pattern) (defBody s_read_pattern) (defScope s_read_pattern) .none kV28 dc28 pm28 an28 cd28 ct28), sl28⟩)
    (c28 : PySem.W.codeIn K cd28 "read_pattern" = true)
    (k28 : PySem.W.keepIn K (.ref f28) = true)
    (a29 : PySem.W.nsIn K mainGlobals "falls_under" = some (some (.ref f29)))
    (l29 : K.lookup f29 = some ⟨oc29, od29, .func (PySem.W.fnOf "falls_under" "falls_under" (defArgs s_falls_under) (defBody s_falls_under) (defScope s_falls_under) .none kV29 dc29 pm29 an29 cd29 ct29), sl29⟩)
    (c29 : PySem.W.codeIn K cd29 "falls_under" = true)
    (k29 : PySem.W.keepIn K (.ref f29) = true)
    (a30 : PySem.W.nsIn K mainGlobals "law" = some (some (.ref f30)))
    (l30 : K.lookup f30 = some ⟨oc30, od30, .func (PySem.W.fnOf "law" "law" (defArgs s_law) (defBody s_law) (defScope s_law) .none kV30 dc30 pm30 an30 cd30 ct30), sl30⟩)
    (c30 : PySem.W.codeIn K cd30 "law" = true)
    (k30 : PySem.W.keepIn K (.ref f30) = true)
    (z_all : PySem.W.nsIn K mainGlobals "all" = some none)
    (z_any : PySem.W.nsIn K mainGlobals "any" = some none)
    (z_int : PySem.W.nsIn K mainGlobals "int" = some none)
    (z_isinstance : PySem.W.nsIn K mainGlobals "isinstance" = some none)
    (z_len : PySem.W.nsIn K mainGlobals "len" = some none)
    (z_list : PySem.W.nsIn K mainGlobals "list" = some none)
    (z_range : PySem.W.nsIn K mainGlobals "range" = some none)
    (z_sorted : PySem.W.nsIn K mainGlobals "sorted" = some none)
    (z_str : PySem.W.nsIn K mainGlobals "str" = some none)
    (z_tuple : PySem.W.nsIn K mainGlobals "tuple" = some none)
    (z_zip : PySem.W.nsIn K mainGlobals "zip" = some none)
    (g1 : PySem.W.nsIn K mainGlobals "FIGURES" = some (some (.str "0123456789" tg1)))
    (g2 : PySem.W.nsIn K mainGlobals "KINDS" = some (some (.ref ag2)))
    (m2 : K.lookup ag2 = some ⟨.type "tuple", none, .seq its2 ng2, sg2⟩)
    (v2 : Vals ((["number", "name", "any"] : List Str).map V.str) its2.toList)
    (g3 : PySem.W.nsIn K mainGlobals "MARKS" = some (some (.str "<=" tg3)))
    (g4 : PySem.W.nsIn K mainGlobals "MOST_WORDS" = some (some (.int 12 tg4))) :
    ∃ fd : FuncData, (∀ (s : Shared) (v : Value), BindsTo s fd ⟨[v], []⟩ [("script", v)]) ∧ ∀ base : Heap, K.In base → base.Ns mainGlobals mg → FnG P w K mg base 6 fa fd ["script"] (spOf K C_law) := by
  have e := hfa.symm.trans (PySem.W.mg_of X G a30)
  cases e
  refine ⟨PySem.W.fnOf "law" "law" (defArgs s_law) (defBody s_law) (defScope s_law) .none kV30 dc30 pm30 an30 cd30 ct30, fun s v => .of_eq rfl, fun base _ _ => ?_⟩
  have b_all := PySem.W.mg_none_of X G z_all
  have b_any := PySem.W.mg_none_of X G z_any
  have b_int := PySem.W.mg_none_of X G z_int
  have b_isinstance := PySem.W.mg_none_of X G z_isinstance
  have b_len := PySem.W.mg_none_of X G z_len
  have b_list := PySem.W.mg_none_of X G z_list
  have b_range := PySem.W.mg_none_of X G z_range
  have b_sorted := PySem.W.mg_none_of X G z_sorted
  have b_str := PySem.W.mg_none_of X G z_str
  have b_tuple := PySem.W.mg_none_of X G z_tuple
  have b_zip := PySem.W.mg_none_of X G z_zip
  have gg_FIGURES : Glob K mg "FIGURES" (.str "0123456789") := ⟨.str "0123456789", _, PySem.W.mg_of X G g1, ⟨_, rfl⟩, fun B F => .str _⟩
  have gg_KINDS : GlobT K mg "KINDS" ["number", "name", "any"] := ⟨ag2, _, PySem.W.mg_of X G g2, m2, rfl, rfl, fun F => .inr ⟨_, its2, ng2, m2, rfl, rfl, by have := v2.length; have := sizeLine_eq; simp at *; omega, v2⟩⟩
  have gg_MARKS : Glob K mg "MARKS" (.str "<=") := ⟨.str "<=", _, PySem.W.mg_of X G g3, ⟨_, rfl⟩, fun B F => .str _⟩
  have gg_MOST_WORDS : Glob K mg "MOST_WORDS" (.int 12) := ⟨.int 12, _, PySem.W.mg_of X G g4, ⟨_, rfl⟩, fun B F => .int _⟩
  have F1 := fun_mk (st := s_is_word) l1 c1 k1
  have c_is_word : Callee P w K mg base 1 "is_word" [] C_isWord := ⟨_, _, _, _, [], ok_is_word (k := 0) (toA F1) b_all b_isinstance b_str h_isWord, PySem.W.mg_of X G a1, F1.kp, F1.binds (ps := ["thing"]) (fun _ _ _ _ _ _ us hl => match us, hl with | [_], _ => rfl), .nil, fun _ _ => .nil⟩
  have F2 := fun_mk (st := s_kind_of) l2 c2 k2
  have c_kind_of : Callee P w K mg base 1 "kind_of" [] C_kind := ⟨_, _, _, _, [], ok_kind_of (k := 0) (toA F2) gg_FIGURES b_all h_kindof, PySem.W.mg_of X G a2, F2.kp, F2.binds (ps := ["word"]) (fun _ _ _ _ _ _ us hl => match us, hl with | [_], _ => rfl), .nil, fun _ _ => .nil⟩
  have F3 := fun_mk (st := s_words_of) l3 c3 k3
  have c_words_of : Callee P w K mg base 1 "words_of" [] C_words := ⟨_, _, _, _, [], ok_words_of (k := 0) (toA F3)  h_words, PySem.W.mg_of X G a3, F3.kp, F3.binds (ps := ["line"]) (fun _ _ _ _ _ _ us hl => match us, hl with | [_], _ => rfl), .nil, fun _ _ => .nil⟩
  have F4 := fun_mk (st := s_word_place) l4 c4 k4
  have c_word_place : Callee P w K mg base 1 "word_place" [] C_wplace := ⟨_, _, _, _, [], ok_word_place (k := 0) (toA F4) b_len h_wplace, PySem.W.mg_of X G a4, F4.kp, F4.binds (ps := ["word"]) (fun _ _ _ _ _ _ us hl => match us, hl with | [_], _ => rfl), .nil, fun _ _ => .nil⟩
  have F5 := fun_mk (st := s_looseness) l5 c5 k5
  have c_looseness : Callee P w K mg base 1 "looseness" [] C_loo := ⟨_, _, _, _, [], ok_looseness (k := 0) (toA F5) b_int h_loo, PySem.W.mg_of X G a5, F5.kp, F5.binds (ps := ["pattern"]) (fun _ _ _ _ _ _ us hl => match us, hl with | [_], _ => rfl), .nil, fun _ _ => .nil⟩
  have F6 := fun_mk (st := s_show_part) l6 c6 k6
  have c_show_part : Callee P w K mg base 1 "show_part" [] C_showPt := ⟨_, _, _, _, [], ok_show_part (k := 0) (toA F6) gg_MARKS h_showPt, PySem.W.mg_of X G a6, F6.kp, F6.binds (ps := ["part"]) (fun _ _ _ _ _ _ us hl => match us, hl with | [_], _ => rfl), .nil, fun _ _ => .nil⟩
  have F7 := fun_mk (st := s_read_part) l7 c7 k7
  have c_read_part : Callee P w K mg base 1 "read_part" [] C_readPt := ⟨_, _, _, _, [], ok_read_part (k := 0) (toA F7) gg_MARKS gg_KINDS h_readPt, PySem.W.mg_of X G a7, F7.kp, F7.binds (ps := ["text"]) (fun _ _ _ _ _ _ us hl => match us, hl with | [_], _ => rfl), .nil, fun _ _ => .nil⟩
  have F8 := fun_mk (st := s__law_deck) l8 c8 k8
  have c__law_deck : Callee P w K mg base 1 "_law_deck" [] C_deck := ⟨_, _, _, _, [], ok__law_deck (k := 0) (toA F8)  h_deck, PySem.W.mg_of X G a8, F8.kp, F8.binds (ps := ["cell", "turn"]) (fun _ _ _ _ _ _ us hl => match us, hl with | [_, _], _ => rfl), .nil, fun _ _ => .nil⟩
  have F9 := fun_mk (st := s__law_pick) l9 c9 k9
  have c__law_pick : Callee P w K mg base 1 "_law_pick" [] C_pick := ⟨_, _, _, _, [], ok__law_pick (k := 0) (toA F9)  h_pick, PySem.W.mg_of X G a9, F9.kp, F9.binds (ps := ["deck", "many"]) (fun _ _ _ _ _ _ us hl => match us, hl with | [_, _], _ => rfl), .nil, fun _ _ => .nil⟩
  have F10 := fun_mk (st := s__law_kind) l10 c10 k10
  have c__law_kind : Callee P w K mg base 1 "_law_kind" [] C_kind := ⟨_, _, _, _, [], ok__law_kind (k := 0) (toA F10)  h_kind, PySem.W.mg_of X G a10, F10.kp, F10.binds (ps := ["word"]) (fun _ _ _ _ _ _ us hl => match us, hl with | [_], _ => rfl), .nil, fun _ _ => .nil⟩
  have F11 := fun_mk (st := s_is_line) l11 c11 k11
  have c_is_line : Callee P w K mg base 2 "is_line" [] C_isLine := ⟨_, _, _, _, [], ok_is_line (k := 1) (toA F11) (c_is_word.imp (fun _ _ h => h) (by decide : 1 ≤ 1)) (c_words_of.imp (fun _ _ h => h) (by decide : 1 ≤ 1)) gg_MOST_WORDS b_len b_all b_isinstance b_str h_isLine, PySem.W.mg_of X G a11, F11.kp, F11.binds (ps := ["thing"]) (fun _ _ _ _ _ _ us hl => match us, hl with | [_], _ => rfl), .nil, fun _ _ => .nil⟩
  have F12 := fun_mk (st := s_line_place) l12 c12 k12
  have c_line_place : Callee P w K mg base 2 "line_place" [] C_lnPlace := ⟨_, _, _, _, [], ok_line_place (k := 1) (toA F12) (c_word_place.imp (fun _ _ h => h) (by decide : 1 ≤ 1)) (c_words_of.imp (fun _ _ h => h) (by decide : 1 ≤ 1)) b_len h_lnPlace, PySem.W.mg_of X G a12, F12.kp, F12.binds (ps := ["line"]) (fun _ _ _ _ _ _ us hl => match us, hl with | [_], _ => rfl), .nil, fun _ _ => .nil⟩
  have F13 := fun_mk (st := s_is_part) l13 c13 k13
  have c_is_part : Callee P w K mg base 2 "is_part" [] C_isPart := ⟨_, _, _, _, [], ok_is_part (k := 1) (toA F13) (c_is_word.imp (fun _ _ h => h) (by decide : 1 ≤ 1)) gg_KINDS b_isinstance b_str b_tuple b_len h_isPart, PySem.W.mg_of X G a13, F13.kp, F13.binds (ps := ["thing"]) (fun _ _ _ _ _ _ us hl => match us, hl with | [_], _ => rfl), .nil, fun _ _ => .nil⟩
  have F14 := fun_mk (st := s_fits_part) l14 c14 k14
  have c_fits_part : Callee P w K mg base 2 "fits_part" [] C_fitsPt := ⟨_, _, _, _, [], ok_fits_part (k := 1) (toA F14) (c_kind_of.imp (fun _ _ h => h) (by decide : 1 ≤ 1)) h_fitsPt, PySem.W.mg_of X G a14, F14.kp, F14.binds (ps := ["part", "word"]) (fun _ _ _ _ _ _ us hl => match us, hl with | [_, _], _ => rfl), .nil, fun _ _ => .nil⟩
  have F15 := fun_mk (st := s_joined_parts) l15 c15 k15
  have c_joined_parts : Callee P w K mg base 2 "joined_parts" [] C_joinPt := ⟨_, _, _, _, [], ok_joined_parts (k := 1) (toA F15) (c_kind_of.imp (fun _ _ h => h) (by decide : 1 ≤ 1)) b_all h_joinPt, PySem.W.mg_of X G a15, F15.kp, F15.binds (ps := ["parts"]) (fun _ _ _ _ _ _ us hl => match us, hl with | [_], _ => rfl), .nil, fun _ _ => .nil⟩
  have F16 := fun_mk (st := s_pattern_place) l16 c16 k16
  have c_pattern_place : Callee P w K mg base 2 "pattern_place" [] C_place := ⟨_, _, _, _, [], ok_pattern_place (k := 1) (toA F16) (c_word_place.imp (fun _ _ h => h) (by decide : 1 ≤ 1)) gg_KINDS b_len h_place, PySem.W.mg_of X G a16, F16.kp, F16.binds (ps := ["pattern"]) (fun _ _ _ _ _ _ us hl => match us, hl with | [_], _ => rfl), .nil, fun _ _ => .nil⟩
  have F17 := fun_mk (st := s_show_pattern) l17 c17 k17
  have c_show_pattern : Callee P w K mg base 2 "show_pattern" [] C_showPat := ⟨_, _, _, _, [], ok_show_pattern (k := 1) (toA F17) (c_show_part.imp (fun _ _ h => h) (by decide : 1 ≤ 1)) h_showPat, PySem.W.mg_of X G a17, F17.kp, F17.binds (ps := ["pattern"]) (fun _ _ _ _ _ _ us hl => match us, hl with | [_], _ => rfl), .nil, fun _ _ => .nil⟩
  have F18 := fun_mk (st := s__law_long) l18 c18 k18
  have c__law_long : Callee P w K mg base 2 "_law_long" [] C_long := ⟨_, _, _, _, [], ok__law_long (k := 1) (toA F18) (c__law_pick.imp (fun _ _ h => h) (by decide : 1 ≤ 1)) b_int b_range b_len h_long, PySem.W.mg_of X G a18, F18.kp, F18.binds (ps := ["deck"]) (fun _ _ _ _ _ _ us hl => match us, hl with | [_], _ => rfl), .nil, fun _ _ => .nil⟩
  have F19 := fun_mk (st := s__law_other) l19 c19 k19
  have c__law_other : Callee P w K mg base 2 "_law_other" [] C_other := ⟨_, _, _, _, [], ok__law_other (k := 1) (toA F19) (c__law_pick.imp (fun _ _ h => h) (by decide : 1 ≤ 1)) b_len h_other, PySem.W.mg_of X G a19, F19.kp, F19.binds (ps := ["deck", "word"]) (fun _ _ _ _ _ _ us hl => match us, hl with | [_, _], _ => rfl), .nil, fun _ _ => .nil⟩
  have F20 := fun_mk (st := s_in_order) l20 c20 k20
  have c_in_order : Callee P w K mg base 3 "in_order" [] C_inOrder := ⟨_, _, _, _, [], ok_in_order (k := 2) (toA F20) (c_line_place.imp (fun _ _ h => h) (by decide : 2 ≤ 2)) b_sorted h_inOrder, PySem.W.mg_of X G a20, F20.kp, F20.binds (ps := ["lines"]) (fun _ _ _ _ _ _ us hl => match us, hl with | [_], _ => rfl), .nil, fun _ _ => .nil⟩
  have F21 := fun_mk (st := s_is_pattern) l21 c21 k21
  have c_is_pattern : Callee P w K mg base 3 "is_pattern" [] C_isPattern := ⟨_, _, _, _, [], ok_is_pattern (k := 2) (toA F21) (c_is_part.imp (fun _ _ h => h) (by decide : 2 ≤ 2)) gg_MOST_WORDS b_isinstance b_list b_len b_all h_isPattern, PySem.W.mg_of X G a21, F21.kp, F21.binds (ps := ["thing"]) (fun _ _ _ _ _ _ us hl => match us, hl with | [_], _ => rfl), .nil, fun _ _ => .nil⟩
  have F22 := fun_mk (st := s_fits) l22 c22 k22
  have c_fits : Callee P w K mg base 3 "fits" [] C_fits := ⟨_, _, _, _, [], ok_fits (k := 2) (toA F22) (c_fits_part.imp (fun _ _ h => h) (by decide : 2 ≤ 2)) (c_words_of.imp (fun _ _ h => h) (by decide : 1 ≤ 2)) b_zip b_len h_fits, PySem.W.mg_of X G a22, F22.kp, F22.binds (ps := ["pattern", "line"]) (fun _ _ _ _ _ _ us hl => match us, hl with | [_, _], _ => rfl), .nil, fun _ _ => .nil⟩
  have F23 := fun_mk (st := s_filled) l23 c23 k23
  have c_filled : Callee P w K mg base 3 "filled" [] C_filled := ⟨_, _, _, _, [], ok_filled (k := 2) (toA F23) (c_is_word.imp (fun _ _ h => h) (by decide : 1 ≤ 2)) (c_fits_part.imp (fun _ _ h => h) (by decide : 2 ≤ 2)) b_list h_filled, PySem.W.mg_of X G a23, F23.kp, F23.binds (ps := ["pattern", "words"]) (fun _ _ _ _ _ _ us hl => match us, hl with | [_, _], _ => rfl), .nil, fun _ _ => .nil⟩
  have F24 := fun_mk (st := s_joined) l24 c24 k24
  have c_joined : Callee P w K mg base 3 "joined" [] C_joined := ⟨_, _, _, _, [], ok_joined (k := 2) (toA F24) (c_joined_parts.imp (fun _ _ h => h) (by decide : 2 ≤ 2)) b_len b_range b_any h_joined, PySem.W.mg_of X G a24, F24.kp, F24.binds (ps := ["patterns"]) (fun _ _ _ _ _ _ us hl => match us, hl with | [_], _ => rfl), .nil, fun _ _ => .nil⟩
  have F25 := fun_mk (st := s_ordered) l25 c25 k25
  have c_ordered : Callee P w K mg base 3 "ordered" [] C_ordered := ⟨_, _, _, _, [], ok_ordered (k := 2) (toA F25) (c_pattern_place.imp (fun _ _ h => h) (by decide : 2 ≤ 2)) b_list b_sorted h_ordered, PySem.W.mg_of X G a25, F25.kp, F25.binds (ps := ["patterns"]) (fun _ _ _ _ _ _ us hl => match us, hl with | [_], _ => rfl), .nil, fun _ _ => .nil⟩
  have F26 := fun_mk (st := s_fillings) l26 c26 k26
  have c_fillings : Callee P w K mg base 4 "fillings" [] C_fillings := ⟨_, _, _, _, [], ok_fillings (k := 3) (toA F26) (c_words_of.imp (fun _ _ h => h) (by decide : 1 ≤ 3)) (c_fits.imp (fun _ _ h => h) (by decide : 3 ≤ 3)) b_zip h_fillings, PySem.W.mg_of X G a26, F26.kp, F26.binds (ps := ["pattern", "line"]) (fun _ _ _ _ _ _ us hl => match us, hl with | [_, _], _ => rfl), .nil, fun _ _ => .nil⟩
  have F27 := fun_mk (st := s_narrowest) l27 c27 k27
  have c_narrowest : Callee P w K mg base 4 "narrowest" [] C_narrow := ⟨_, _, _, _, [], ok_narrowest (k := 3) (toA F27) (c_fits.imp (fun _ _ h => h) (by decide : 3 ≤ 3)) (c_looseness.imp (fun _ _ h => h) (by decide : 1 ≤ 3)) h_narrow, PySem.W.mg_of X G a27, F27.kp, F27.binds (ps := ["line", "patterns"]) (fun _ _ _ _ _ _ us hl => match us, hl with | [_, _], _ => rfl), .nil, fun _ _ => .nil⟩
  have F28 := fun_mk (st := s_read_pattern) l28 c28 k28
  have c_read_pattern : Callee P w K mg base 4 "read_pattern" [] C_readPat := ⟨_, _, _, _, [], ok_read_pattern (k := 3) (toA F28) (c_is_pattern.imp (fun _ _ h => h) (by decide : 3 ≤ 3)) (c_read_part.imp (fun _ _ h => h) (by decide : 1 ≤ 3)) h_readPat, PySem.W.mg_of X G a28, F28.kp, F28.binds (ps := ["text"]) (fun _ _ _ _ _ _ us hl => match us, hl with | [_], _ => rfl), .nil, fun _ _ => .nil⟩
  have F29 := fun_mk (st := s_falls_under) l29 c29 k29
  have c_falls_under : Callee P w K mg base 5 "falls_under" [] C_falls := ⟨_, _, _, _, [], ok_falls_under (k := 4) (toA F29) (c_ordered.imp (fun _ _ h => h) (by decide : 3 ≤ 4)) (c_narrowest.imp (fun _ _ h => h) (by decide : 4 ≤ 4)) h_falls, PySem.W.mg_of X G a29, F29.kp, F29.binds (ps := ["line", "patterns"]) (fun _ _ _ _ _ _ us hl => match us, hl with | [_, _], _ => rfl), .nil, fun _ _ => .nil⟩
  have F30 := fun_mk (st := s_law) l30 c30 k30
  exact ok_law (k := 5) (toA F30) (c_in_order.imp (fun _ _ h => h) (by decide : 3 ≤ 5)) (c_show_pattern.imp (fun _ _ h => h) (by decide : 2 ≤ 5)) (c_read_pattern.imp (fun _ _ h => h) (by decide : 4 ≤ 5)) (c_falls_under.imp (fun _ _ h => h) (by decide : 5 ≤ 5)) (c_fillings.imp (fun _ _ h => h) (by decide : 4 ≤ 5)) (c_filled.imp (fun _ _ h => h) (by decide : 3 ≤ 5)) (c_fits.imp (fun _ _ h => h) (by decide : 3 ≤ 5)) (c__law_kind.imp (fun _ _ h => h) (by decide : 1 ≤ 5)) (c_joined.imp (fun _ _ h => h) (by decide : 3 ≤ 5)) (c_is_line.imp (fun _ _ h => h) (by decide : 2 ≤ 5)) (c__law_other.imp (fun _ _ h => h) (by decide : 2 ≤ 5)) (c__law_pick.imp (fun _ _ h => h) (by decide : 1 ≤ 5)) (c_kind_of.imp (fun _ _ h => h) (by decide : 1 ≤ 5)) (c__law_long.imp (fun _ _ h => h) (by decide : 2 ≤ 5)) (c__law_deck.imp (fun _ _ h => h) (by decide : 1 ≤ 5)) b_int b_len b_list b_range h_law
end Tx
open PySem PySem.W PyProof.Rows
set_option maxHeartbeats 0 in
theorem PySem.Challenge.cw_loggather_k40_whole_long_words_holds : PySem.Challenge.rw_loggather_k40_whole_long_words.Holds := by
  w_on; o_law; k_head; (case hw => w_witness2)
  k_fill
  refine Pl.walk_G (l := PySem.Challenge.rw_loggather_k40_whole_long_words) (n := 63) (k := 6) (x := "script") (C := Tx.C_law) rfl (by decide) rfl ⟨rfl, by decide, by decide⟩ (fun w h Y => PySem.W.kIn_of Y) ?F (fun ns post hl _ hp => ⟨ns, rfl, hl, hp _⟩)
  case F =>
    intro w mg fa h KX G hmg
    refine' Tx.all_mk KX G hmg ?a1 ?l1 ?c1 ?k1 ?a2 ?l2 ?c2 ?k2 ?a3 ?l3 ?c3 ?k3 ?a4 ?l4 ?c4 ?k4 ?a5 ?l5 ?c5 ?k5 ?a6 ?l6 ?c6 ?k6 ?a7 ?l7 ?c7 ?k7 ?a8 ?l8 ?c8 ?k8 ?a9 ?l9 ?c9 ?k9 ?a10 ?l10 ?c10 ?k10 ?a11 ?l11 ?c11 ?k11 ?a12 ?l12 ?c12 ?k12 ?a13 ?l13 ?c13 ?k13 ?a14 ?l14 ?c14 ?k14 ?a15 ?l15 ?c15 ?k15 ?a16 ?l16 ?c16 ?k16 ?a17 ?l17 ?c17 ?k17 ?a18 ?l18 ?c18 ?k18 ?a19 ?l19 ?c19 ?k19 ?a20 ?l20 ?c20 ?k20 ?a21 ?l21 ?c21 ?k21 ?a22 ?l22 ?c22 ?k22 ?a23 ?l23 ?c23 ?k23 ?a24 ?l24 ?c24 ?k24 ?a25 ?l25 ?c25 ?k25 ?a26 ?l26 ?c26 ?k26 ?a27 ?l27 ?c27 ?k27 ?a28 ?l28 ?c28 ?k28 ?a29 ?l29 ?c29 ?k29 ?a30 ?l30 ?c30 ?k30 ?z_all ?z_any ?z_int ?z_isinstance ?z_len ?z_list ?z_range ?z_sorted ?z_str ?z_tuple ?z_zip ?g1 ?g2 ?m2 ?v2 ?g3 ?g4
    (case a1 => k_is); (case l1 => k_is); (case c1 => k_is); (case k1 => k_is); (case a2 => k_is); (case l2 => k_is); (case c2 => k_is); (case k2 => k_is); (case a3 => k_is); (case l3 => k_is); (case c3 => k_is); (case k3 => k_is); (case a4 => k_is); (case l4 => k_is); (case c4 => k_is); (case k4 => k_is); (case a5 => k_is); (case l5 => k_is); (case c5 => k_is); (case k5 => k_is); (case a6 => k_is); (case l6 => k_is); (case c6 => k_is); (case k6 => k_is); (case a7 => k_is); (case l7 => k_is); (case c7 => k_is); (case k7 => k_is); (case a8 => k_is); (case l8 => k_is); (case c8 => k_is); (case k8 => k_is); (case a9 => k_is); (case l9 => k_is); (case c9 => k_is); (case k9 => k_is); (case a10 => k_is); (case l10 => k_is); (case c10 => k_is); (case k10 => k_is); (case a11 => k_is); (case l11 => k_is); (case c11 => k_is); (case k11 => k_is); (case a12 => k_is); (case l12 => k_is); (case c12 => k_is); (case k12 => k_is); (case a13 => k_is); (case l13 => k_is); (case c13 => k_is); (case k13 => k_is); (case a14 => k_is); (case l14 => k_is); (case c14 => k_is); (case k14 => k_is); (case a15 => k_is); (case l15 => k_is); (case c15 => k_is); (case k15 => k_is); (case a16 => k_is); (case l16 => k_is); (case c16 => k_is); (case k16 => k_is); (case a17 => k_is); (case l17 => k_is); (case c17 => k_is); (case k17 => k_is); (case a18 => k_is); (case l18 => k_is); (case c18 => k_is); (case k18 => k_is); (case a19 => k_is); (case l19 => k_is); (case c19 => k_is); (case k19 => k_is); (case a20 => k_is); (case l20 => k_is); (case c20 => k_is); (case k20 => k_is); (case a21 => k_is); (case l21 => k_is); (case c21 => k_is); (case k21 => k_is); (case a22 => k_is); (case l22 => k_is); (case c22 => k_is); (case k22 => k_is); (case a23 => k_is); (case l23 => k_is); (case c23 => k_is); (case k23 => k_is); (case a24 => k_is); (case l24 => k_is); (case c24 => k_is); (case k24 => k_is); (case a25 => k_is); (case l25 => k_is); (case c25 => k_is); (case k25 => k_is); (case a26 => k_is); (case l26 => k_is); (case c26 => k_is); (case k26 => k_is); (case a27 => k_is); (case l27 => k_is); (case c27 => k_is); (case k27 => k_is); (case a28 => k_is); (case l28 => k_is); (case c28 => k_is); (case k28 => k_is); (case a29 => k_is); (case l29 => k_is); (case c29 => k_is); (case k29 => k_is); (case a30 => k_is); (case l30 => k_is); (case c30 => k_is); (case k30 => k_is); (case z_all => k_is); (case z_any => k_is); (case z_int => k_is); (case z_isinstance => k_is); (case z_len => k_is); (case z_list => k_is); (case z_range => k_is); (case z_sorted => k_is); (case z_str => k_is); (case z_tuple => k_is); (case z_zip => k_is); (case g1 => k_is); (case g2 => k_is); (case m2 => k_is); (case g3 => k_is); (case g4 => k_is)
    (case v2 => exact .cons ⟨_, rfl⟩ (.cons ⟨_, rfl⟩ (.cons ⟨_, rfl⟩ (.nil))))
