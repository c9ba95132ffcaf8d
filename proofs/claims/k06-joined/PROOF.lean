import PyProof.Rows.All
import Wide.All
import OpenK.AllK
import Wide.FinOn
import HandS.ForMost
import HandS.Lambda
import HandS.Nested
import HandS.EndTab
import HandS.TupAny
import HandS.TupMul
import HandS.Conv
import HandS.Style
import HandS.Deep
import HandS.Strs
import HandS.IsInst
import KE.SortData
import HandS.TupSets
import HandS.SetBool
import HandS.SetFor
import HandS.CallSlots
import HandS.ExcCtx
import HandS.Walk
import HandS.Zip
import HandS.FStr
import HandS.TryOnly
import HandS.ListItems
import HandS.Text
import KE.KIndexWalk
import HandS.Words
import HandS.WordsExc
import HandS.HotCalls
import HandS.ExcIs
import KE.KExcIs
import KE.KExcSuper
import HandS.ExcInit
import HandS.HeadHook4
import HandS.Head2
import HandS.HeadWalk
import PySem.Challenge.RW_equalsnear_k06_orders_joined_and_parts

/-! == E1 == -/
set_option Elab.async false
set_option linter.all false
set_option maxRecDepth 100000
set_option maxHeartbeats 4000000
/-! E1: data, the store of cells, what stands for what in the abstract heap. -/
namespace EN
open PySem PySem.Spec PyProof.Rows L2

abbrev D := PyData
/-- a thing known by its address alone; a def or class of the module by its name -/
abbrev refD (a : Addr) : D := .dict [(.none, .int ((show Nat from a) : Int))]
abbrev fnD (x : Str) : D := .dict [(.none, .str x)]
def keyD : Key → D
  | .inl i => .int i
  | .inr x => .str x

/-- a cell: something that may change, by its address -/
inductive Cell where
  | lst (ds : List D)
  | ins (C : Str) (fs : List (Str × D))
abbrev Sto := Addr → Option Cell
def Sto.put (S : Sto) (a : Addr) (c : Cell) : Sto := fun b => if b = a then some c else S b
def Sto.del (S : Sto) (a : Addr) : Sto := fun b => if b = a then none else S b
theorem Sto.put_same {S : Sto} {a : Addr} {c : Cell} : S.put a c a = some c := by unfold Sto.put; rw [if_pos rfl]
theorem Sto.put_ne {S : Sto} {a b : Addr} {c : Cell} (h : b ≠ a) : S.put a c b = S b := by unfold Sto.put; rw [if_neg h]
theorem Sto.del_same {S : Sto} {a : Addr} : S.del a a = none := by unfold Sto.del; rw [if_pos rfl]
theorem Sto.del_ne {S : Sto} {a b : Addr} (h : b ≠ a) : S.del a b = S b := by unfold Sto.del; rw [if_neg h]
theorem Sto.put_put {S : Sto} {a : Addr} {c c' : Cell} : (S.put a c).put a c' = S.put a c' := by
  funext b; unfold Sto.put; split <;> rfl

/-- what is fixed through a law: the written part, the module's names, the tables of code objects -/
structure Fx where
  K : PySem.W.Frag
  mg : Str → Option Value
  T : List (Addr × Str)
  scr : Addr → Option (List Int)
  /-- code objects that are held, things that are known to stand for data -/
  cod : List (Addr × Str) := []
  cap : List (V × D) := []
  xds : List Addr := []

/-- a list that stays: no cell, not in the making -/
def Stay (S : Sto) (Z : Addr → Prop) (a : Addr) : Prop := S a = none ∧ ¬ Z a

/-- a tuple's object, as every making of one lays it -/
abbrev tupObj (its : Array Value) : Obj := { cls := .type "tuple", data := .seq its }
theorem sqF {K : PySem.W.Frag} {H : Hp} {a : Addr} {o : Obj} {xs : List V} (h : H a = some (.frz o (.tup xs))) : SqT K H a xs := .inl (.inr ⟨_, h⟩)
theorem tupF_new {P : Program} {w : World} {H : Hp} {h : Heap} {p : Addr} {us : List Value} {xs : List V} (get : h.get? p = some (tupObj us.toArray)) (r : Vals xs us) (z : xs.length ≤ sizeLine) : ObjOk P w H h p (.frz (tupObj us.toArray) (.tup xs)) :=
  ⟨get, z, us, r, ⟨_, get, rfl, _, rfl⟩⟩
section
variable (F : Fx) (H : Hp) (S : Sto) (Z : Addr → Prop)
mutual
inductive Rep : V → D → Prop
  | non : Rep .non .none
  | bl (b : Bool) : Rep (.bl b) (.bool b)
  | int (i : Int) : Rep (.int i) (.int i)
  | str (x : Str) : Rep (.str x) (.str x)
  | lst {a : Addr} {xs : List V} {ds : List D} : H a = some (.lst xs) → Stay S Z a → RepA xs ds → Rep (.ref a) (.list ds)
  | tup {a : Addr} {its : Array Value} {xs : List V} {ds : List D} : H a = some (.frz (tupObj its) (.tup xs)) → S a = none → RepA xs ds → Rep (.ref a) (.tuple ds)
  | ref (a : Addr) : Rep (.ref a) (refD a)
  | fn {a : Addr} {x : Str} : F.mg x = some (.ref a) → PySem.W.keepIn F.K (.ref a) = true → Rep (.ref a) (fnD x)
  | dic {a : Addr} {kvs : List (Key × V)} {ds : List (D × D)} : H a = some (.dK kvs) → Stay S Z a → RepK kvs ds → Rep (.ref a) (.dict ds)
inductive RepA : List V → List D → Prop
  | nil : RepA [] []
  | cons {v : V} {vs : List V} {d : D} {ds : List D} : Rep v d → RepA vs ds → RepA (v :: vs) (d :: ds)
inductive RepK : List (Key × V) → List (D × D) → Prop
  | nil : RepK [] []
  | cons {k : Key} {v : V} {kvs : List (Key × V)} {d : D} {ds : List (D × D)} : Rep v d → RepK kvs ds → RepK ((k, v) :: kvs) ((keyD k, d) :: ds)
end
end

/-- what stays from one state to a later one -/
def Ext (H : Hp) (S : Sto) (H' : Hp) (S' : Sto) : Prop := ∀ a o, H a = some o → S a = none → (∀ ps, o ≠ .tbl ps) → H' a = some o ∧ S' a = none
theorem Ext.refl (H : Hp) (S : Sto) : Ext H S H S := fun _ _ h s _ => ⟨h, s⟩
theorem Ext.trans {H H1 H2 : Hp} {S S1 S2 : Sto} (a : Ext H S H1 S1) (b : Ext H1 S1 H2 S2) : Ext H S H2 S2 := fun c o h s n =>
  b c o (a c o h s n).1 (a c o h s n).2 n
theorem Ext.same {H H' : Hp} {S : Sto} (e : Same H H') : Ext H S H' S := fun a o h s _ => ⟨e a o h, s⟩

section
variable {F : Fx} {H H' : Hp} {S S' : Sto} {Z Z' : Addr → Prop}
mutual
theorem Rep.mono (e : Ext H S H' S') : ∀ {v : V} {d : D}, Rep F H S Z v d → Rep F H' S' Z v d
  | _, _, .non => .non
  | _, _, .bl b => .bl b
  | _, _, .int i => .int i
  | _, _, .str x => .str x
  | _, _, .lst h s r => .lst (e _ _ h s.1 (fun _ => nofun)).1 ⟨(e _ _ h s.1 (fun _ => nofun)).2, s.2⟩ (RepA.mono e r)
  | _, _, .tup h s r => .tup (e _ _ h s (fun _ => nofun)).1 (e _ _ h s (fun _ => nofun)).2 (RepA.mono e r)
  | _, _, .ref a => .ref a
  | _, _, .fn h k => .fn h k
  | _, _, .dic h s r => .dic (e _ _ h s.1 (fun _ => nofun)).1 ⟨(e _ _ h s.1 (fun _ => nofun)).2, s.2⟩ (RepK.mono e r)
theorem RepA.mono (e : Ext H S H' S') : ∀ {vs : List V} {ds : List D}, RepA F H S Z vs ds → RepA F H' S' Z vs ds
  | _, _, .nil => .nil
  | _, _, .cons r t => .cons (Rep.mono e r) (RepA.mono e t)
theorem RepK.mono (e : Ext H S H' S') : ∀ {vs : List (Key × V)} {ds : List (D × D)}, RepK F H S Z vs ds → RepK F H' S' Z vs ds
  | _, _, .nil => .nil
  | _, _, .cons r t => .cons (Rep.mono e r) (RepK.mono e t)
end
-- fewer cells, less in the making
mutual
theorem Rep.less (e : ∀ a o, H a = some o → S a = none → S' a = none) (z : ∀ a, Z' a → Z a) : ∀ {v : V} {d : D}, Rep F H S Z v d → Rep F H S' Z' v d
  | _, _, .non => .non
  | _, _, .bl b => .bl b
  | _, _, .int i => .int i
  | _, _, .str x => .str x
  | _, _, .lst h s r => .lst h ⟨e _ _ h s.1, fun q => s.2 (z _ q)⟩ (RepA.less e z r)
  | _, _, .tup h s r => .tup h (e _ _ h s) (RepA.less e z r)
  | _, _, .ref a => .ref a
  | _, _, .fn h k => .fn h k
  | _, _, .dic h s r => .dic h ⟨e _ _ h s.1, fun q => s.2 (z _ q)⟩ (RepK.less e z r)
theorem RepA.less (e : ∀ a o, H a = some o → S a = none → S' a = none) (z : ∀ a, Z' a → Z a) : ∀ {vs : List V} {ds : List D}, RepA F H S Z vs ds → RepA F H S' Z' vs ds
  | _, _, .nil => .nil
  | _, _, .cons r t => .cons (Rep.less e z r) (RepA.less e z t)
theorem RepK.less (e : ∀ a o, H a = some o → S a = none → S' a = none) (z : ∀ a, Z' a → Z a) : ∀ {vs : List (Key × V)} {ds : List (D × D)}, RepK F H S Z vs ds → RepK F H S' Z' vs ds
  | _, _, .nil => .nil
  | _, _, .cons r t => .cons (Rep.less e z r) (RepK.less e z t)
end
theorem Rep.same (e : Same H H') {v : V} {d : D} (r : Rep F H S Z v d) : Rep F H' S Z v d := r.mono (Ext.same e)
theorem RepA.same (e : Same H H') {v : List V} {d : List D} (r : RepA F H S Z v d) : RepA F H' S Z v d := r.mono (Ext.same e)

theorem RepA.length : ∀ {vs : List V} {ds : List D}, RepA F H S Z vs ds → vs.length = ds.length
  | _, _, .nil => rfl
  | _, _, .cons _ t => by rw [List.length_cons, List.length_cons, RepA.length t]
theorem RepA.append : ∀ {vs ws : List V} {ds es : List D}, RepA F H S Z vs ds → RepA F H S Z ws es → RepA F H S Z (vs ++ ws) (ds ++ es)
  | _, _, _, _, .nil, s => s
  | _, _, _, _, .cons r t, s => .cons r (RepA.append t s)
theorem RepA.one {v : V} {d : D} (r : Rep F H S Z v d) : RepA F H S Z [v] [d] := .cons r .nil
theorem RepA.get : ∀ {vs : List V} {ds : List D} {i : Nat} {d : D}, RepA F H S Z vs ds → ds[i]? = some d → ∃ v, vs[i]? = some v ∧ Rep F H S Z v d
  | _, _, _, _, .nil, e => by simp at e
  | _, _, 0, _, .cons r _, e => by simp at e; subst e; exact ⟨_, rfl, r⟩
  | _, _, i + 1, d, .cons _ t, e => by
    obtain ⟨v, h1, h2⟩ := RepA.get (i := i) t (by simpa using e)
    exact ⟨v, by simpa using h1, h2⟩
theorem RepA.getV : ∀ {vs : List V} {ds : List D} {i : Nat} {v : V}, RepA F H S Z vs ds → vs[i]? = some v → ∃ d, ds[i]? = some d ∧ Rep F H S Z v d
  | _, _, _, _, .nil, e => by simp at e
  | _, _, 0, _, .cons r _, e => by simp at e; subst e; exact ⟨_, rfl, r⟩
  | _, _, i + 1, d, .cons _ t, e => by
    obtain ⟨v, h1, h2⟩ := RepA.getV (i := i) t (by simpa using e)
    exact ⟨v, by simpa using h1, h2⟩
theorem RepA.take : ∀ {vs : List V} {ds : List D} (n : Nat), RepA F H S Z vs ds → RepA F H S Z (vs.take n) (ds.take n)
  | _, _, 0, _ => by rw [List.take_zero, List.take_zero]; exact .nil
  | _, _, _ + 1, .nil => .nil
  | _, _, n + 1, .cons r t => .cons r (RepA.take n t)
theorem RepA.drop : ∀ {vs : List V} {ds : List D} (n : Nat), RepA F H S Z vs ds → RepA F H S Z (vs.drop n) (ds.drop n)
  | _, _, 0, r => r
  | _, _, _ + 1, .nil => .nil
  | _, _, n + 1, .cons _ t => RepA.drop n t
theorem RepA.rev : ∀ {vs : List V} {ds : List D}, RepA F H S Z vs ds → RepA F H S Z vs.reverse ds.reverse
  | _, _, .nil => .nil
  | _, _, .cons r t => by rw [List.reverse_cons, List.reverse_cons]; exact (RepA.rev t).append (.one r)
theorem RepA.set {v : V} {d : D} (r : Rep F H S Z v d) : ∀ {vs : List V} {ds : List D} (i : Nat), RepA F H S Z vs ds → RepA F H S Z (vs.set i v) (ds.set i d)
  | _, _, _, .nil => .nil
  | _, _, 0, .cons _ t => .cons r t
  | _, _, i + 1, .cons q t => .cons q (RepA.set r i t)
theorem RepA.eraseIdx : ∀ {vs : List V} {ds : List D} (i : Nat), RepA F H S Z vs ds → RepA F H S Z (vs.eraseIdx i) (ds.eraseIdx i)
  | _, _, _, .nil => .nil
  | _, _, 0, .cons _ t => t
  | _, _, i + 1, .cons q t => .cons q (RepA.eraseIdx i t)
theorem RepA.dropLast : ∀ {vs : List V} {ds : List D}, RepA F H S Z vs ds → RepA F H S Z vs.dropLast ds.dropLast := fun {vs ds} r => by
  rw [List.dropLast_eq_take, List.dropLast_eq_take, r.length]
  exact r.take _
theorem RepA.ints : ∀ (ns : List Int), RepA F H S Z (ns.map V.int) (ns.map PyData.int)
  | [] => .nil
  | n :: ns => .cons (.int n) (RepA.ints ns)
theorem RepA.of_ints : ∀ {ns : List Int} {vs : List V}, RepA F H S Z vs (ns.map PyData.int) → vs = ns.map V.int
  | [], _, .nil => rfl
  | n :: ns, _, .cons r t => by
    cases r
    rw [RepA.of_ints t]; rfl
theorem RepA.of_bls : ∀ {ns : List Bool} {vs : List V}, RepA F H S Z vs (ns.map PyData.bool) → vs = ns.map V.bl
  | [], _, .nil => rfl
  | n :: ns, _, .cons r t => by
    cases r
    rw [RepA.of_bls t]; rfl
theorem RepA.strs : ∀ (ns : List Str), RepA F H S Z (ns.map V.str) (ns.map PyData.str)
  | [] => .nil
  | n :: ns => .cons (.str n) (RepA.strs ns)
theorem RepA.of_strs : ∀ {ns : List Str} {vs : List V}, RepA F H S Z vs (ns.map PyData.str) → vs = ns.map V.str
  | [], _, .nil => rfl
  | n :: ns, _, .cons r t => by
    cases r
    rw [RepA.of_strs t]; rfl

-- data without addresses is data in the sense of Dp
mutual
theorem Rep.dp {K : PySem.W.Frag} : ∀ {d : D} {v : V}, d.canLay0 = true → Rep F H S Z v d → Dp K H v d
  | .none, _, _, .non => .non
  | .bool b, _, _, .bl _ => .bl b
  | .int i, _, _, .int _ => .int i
  | .str x, _, _, .str _ => .str x
  | .list ds, _, c, .lst h _ r => .lst (.of h) (RepA.dp (by simpa [PyData.canLay0] using c) r)
  | .tuple ds, _, c, .tup h _ r => .tup (sqF h) (RepA.dp (by simpa [PyData.canLay0] using c) r)
  | .dict ds, _, c, _ => by simp [PyData.canLay0] at c
theorem RepA.dp {K : PySem.W.Frag} : ∀ {ds : List D} {vs : List V}, PyData.canLayAll0 ds = true → RepA F H S Z vs ds → DpAll K H vs ds
  | [], _, _, .nil => .nil
  | d :: ds, _, c, .cons r t => by
    have c' : d.canLay0 = true ∧ PyData.canLayAll0 ds = true := by simpa [PyData.canLayAll0] using c
    exact .cons (Rep.dp c'.1 r) (RepA.dp c'.2 t)
end
end

/-! ### the state -/
def CellOk (F : Fx) (H : Hp) (S : Sto) (Z : Addr → Prop) (a : Addr) : Cell → Prop
  | .lst ds => ∃ vs, H a = some (.lst vs) ∧ RepA F H S Z vs ds
  | .ins C fs => ∃ Ca dx vfs, F.mg C = some (.ref Ca) ∧ H a = some (.ins Ca dx vfs) ∧ H dx = some (.own a) ∧ S dx = none ∧ vfs.map (·.1) = fs.map (·.1) ∧ RepA F H S Z (vfs.map (·.2)) (fs.map (·.2))
/-- the script: a list that nobody writes -/
def ScrOk (F : Fx) (H : Hp) (S : Sto) (Z : Addr → Prop) (a : Addr) (ns : List Int) : Prop :=
  (Rd H a (.lst (ns.map V.int)) ∧ Stay S Z a) ∨
    ∃ (o : Obj) (its : Array Value) (n : Nat), F.K.lookup a = some o ∧ o.cls = .type "list" ∧ o.dict = none ∧ o.data = .seq its n ∧ its.size ≤ sizeLine ∧ Vals (ns.map V.int) its.toList
structure RelH (F : Fx) (H : Hp) (S : Sto) (Z : Addr → Prop) : Prop where
  cells : ∀ a c, S a = some c → CellOk F H S Z a c
  zone : ∀ a, Z a → S a = none ∧ ∃ xs, H a = some (.lst xs)
  scr : ∀ a ns, F.scr a = some ns → ScrOk F H S Z a ns
  tabs : LamX.Tabs F.T H
  cod : ∀ p ∈ F.cod, H p.1 = some (LamX.CodeO p.1 p.2) ∧ S p.1 = none
  cap : ∀ p ∈ F.cap, Rep F H S Z p.1 p.2
  xds : ∀ x ∈ F.xds, (∃ fs, H x = some (.xd fs)) ∧ S x = none

section
variable {F : Fx} {H H' : Hp} {S S' : Sto} {Z Z' : Addr → Prop}
theorem ScrOk.seq {a : Addr} {ns : List Int} (h : ScrOk F H S Z a ns) : SqL F.K H a (ns.map V.int) := h.elim (fun q => .inl q.1) .inr
theorem ScrOk.mono (e : Ext H S H' S') {a : Addr} {ns : List Int} (h : ScrOk F H S Z a ns) : ScrOk F H' S' Z a ns := by
  rcases h with ⟨h, s⟩ | h
  · rcases h with h | ⟨o, h⟩
    · exact .inl ⟨.inl (e _ _ h s.1 (fun _ => nofun)).1, (e _ _ h s.1 (fun _ => nofun)).2, s.2⟩
    · exact .inl ⟨.inr ⟨o, (e _ _ h s.1 (fun _ => nofun)).1⟩, (e _ _ h s.1 (fun _ => nofun)).2, s.2⟩
  · exact .inr h
theorem CellOk.same (e : Same H H') {a : Addr} {c : Cell} (h : CellOk F H S Z a c) : CellOk F H' S Z a c := by
  cases c with
  | lst ds => obtain ⟨vs, h1, h2⟩ := h; exact ⟨vs, e _ _ h1, h2.same e⟩
  | ins C fs => obtain ⟨Ca, dx, vfs, h0, h1, h2, h3, h4, h5⟩ := h; exact ⟨Ca, dx, vfs, h0, e _ _ h1, e _ _ h2, h3, h4, h5.same e⟩
theorem RelH.same (h : RelH F H S Z) (e : Same H H') : RelH F H' S Z where
  cells := fun a c q => (h.cells a c q).same e
  zone := fun a z => ⟨(h.zone a z).1, (h.zone a z).2.elim fun xs q => ⟨xs, e _ _ q⟩⟩
  scr := fun a ns q => (h.scr a ns q).mono (Ext.same e)
  tabs := h.tabs.ext e
  cod := fun p z => ⟨e _ _ (h.cod p z).1, (h.cod p z).2⟩
  cap := fun p hp => (h.cap p hp).same e
  xds := fun x hx => ⟨(h.xds x hx).1.elim fun fs q => ⟨fs, e _ _ q⟩, (h.xds x hx).2⟩
theorem CellOk.there {a : Addr} {c : Cell} (h : CellOk F H S Z a c) : ∃ o, H a = some o := by
  cases c with
  | lst ds => obtain ⟨vs, h1, _⟩ := h; exact ⟨_, h1⟩
  | ins C fs => obtain ⟨Ca, dx, vfs, h0, h1, _⟩ := h; exact ⟨_, h1⟩
theorem RelH.free (h : RelH F H S Z) {p : Addr} (n : H p = none) : S p = none ∧ ¬ Z p := by
  constructor
  · cases q : S p with
    | none => rfl
    | some c => obtain ⟨o, e⟩ := (h.cells p c q).there; rw [n] at e; cases e
  · intro z
    obtain ⟨_, xs, e⟩ := h.zone p z
    rw [n] at e; cases e
theorem same_upd {H : Hp} {p : Addr} {o : HO} (h : H p = none) : Same H (upd H p o) := fun b x e => by
  rw [upd_ne (ne_of_none e h)]
  exact e
/-- a new list, a new tuple, as data -/
theorem Rep.newL (h : RelH F H S Z) {p : Addr} (n : H p = none) {xs : List V} {ds : List D} (r : RepA F H S Z xs ds) : Rep F (upd H p (.lst xs)) S Z (.ref p) (.list ds) :=
  .lst upd_same (h.free n) (r.same (same_upd n))
theorem Rep.newT (h : RelH F H S Z) {p : Addr} (n : H p = none) {its : Array Value} {xs : List V} {ds : List D} (r : RepA F H S Z xs ds) : Rep F (upd H p (.frz (tupObj its) (.tup xs))) S Z (.ref p) (.tuple ds) :=
  .tup upd_same (h.free n).1 (r.same (same_upd n))
/-- a cell's list is written -/
theorem CellOk.putL {a b : Addr} {xs : List V} {ds : List D} {c : Cell} (ha : ∃ c, S a = some c) (hb : b ≠ a) (h : CellOk F H S Z b c) : CellOk F (upd H a (.lst xs)) (S.put a (.lst ds)) Z b c := by
  have e : Ext H S (upd H a (.lst xs)) (S.put a (.lst ds)) := fun x o h s _ => by
    have n : x ≠ a := by rintro rfl; obtain ⟨c, q⟩ := ha; rw [s] at q; cases q
    rw [upd_ne n, Sto.put_ne n]; exact ⟨h, s⟩
  cases c with
  | lst ds => obtain ⟨vs, h1, h2⟩ := h; exact ⟨vs, by rw [upd_ne hb]; exact h1, h2.mono e⟩
  | ins C fs =>
    obtain ⟨Ca, dx, vfs, h0, h1, h2, h3, h4, h5⟩ := h
    have q := e dx _ h2 h3 (fun _ => nofun)
    exact ⟨Ca, dx, vfs, h0, by rw [upd_ne hb]; exact h1, q.1, q.2, h4, h5.mono e⟩
theorem ext_putL {a : Addr} {xs : List V} {ds : List D} (ha : ∃ c, S a = some c) : Ext H S (upd H a (.lst xs)) (S.put a (.lst ds)) := fun x o h s _ => by
  have n : x ≠ a := by rintro rfl; obtain ⟨c, q⟩ := ha; rw [s] at q; cases q
  rw [upd_ne n, Sto.put_ne n]; exact ⟨h, s⟩
theorem tabs_upd {T : List (Addr × Str)} {a : Addr} {o : HO} (h : LamX.Tabs T H) (n : ∀ u, H a = some u → (∀ ps, u ≠ .tbl ps) ∧ ∀ c q, u ≠ LamX.CodeO c q) : LamX.Tabs T (upd H a o) := fun p hp => by
  obtain ⟨ps, h1, h2, h3⟩ := h p hp
  have e : p.1 ≠ a := by rintro rfl; exact (n _ h1).1 ps rfl
  refine ⟨ps, by rw [upd_ne e]; exact h1, h2, fun pos cv hc => ?_⟩
  obtain ⟨c, e1, e2⟩ := h3 pos cv hc
  have e' : c ≠ a := by rintro rfl; exact (n _ e2).2 _ _ rfl
  exact ⟨c, e1, by rw [upd_ne e']; exact e2⟩
theorem RelH.putL (h : RelH F H S Z) {a : Addr} {c : Cell} (ha : S a = some c) {ys xs : List V} {ds : List D} (hl : H a = some (.lst ys)) (r : RepA F H S Z xs ds) : RelH F (upd H a (.lst xs)) (S.put a (.lst ds)) Z where
  cells := fun b c' q => by
    by_cases e : b = a
    · subst e
      rw [Sto.put_same] at q; cases q
      exact ⟨xs, upd_same, r.mono (ext_putL ⟨_, ha⟩)⟩
    · rw [Sto.put_ne e] at q
      exact (h.cells b c' q).putL ⟨_, ha⟩ e
  zone := fun b z => by
    have e : b ≠ a := by rintro rfl; have := (h.zone _ z).1; rw [ha] at this; cases this
    rw [Sto.put_ne e, upd_ne e]
    exact h.zone b z
  scr := fun b ns q => (h.scr b ns q).mono (ext_putL ⟨_, ha⟩)
  tabs := tabs_upd h.tabs fun u e => by rw [hl] at e; cases e; exact ⟨fun _ => nofun, fun c q z => by unfold LamX.CodeO at z; cases z⟩
  cod := fun p z => ext_putL ⟨_, ha⟩ p.1 _ (h.cod p z).1 (h.cod p z).2 (fun _ => LamX.codeO_ne _)
  cap := fun p hp => (h.cap p hp).mono (ext_putL ⟨_, ha⟩)
  xds := fun x hx => (h.xds x hx).1.elim fun fs q => have z := ext_putL (xs := xs) (ds := ds) ⟨_, ha⟩ x _ q (h.xds x hx).2 (fun _ => nofun); ⟨⟨fs, z.1⟩, z.2⟩
/-- a new list becomes a cell -/
theorem ext_newC {p : Addr} {o : HO} {c : Cell} (n : H p = none) : Ext H S (upd H p o) (S.put p c) := fun x u h s _ => by
  have e : x ≠ p := ne_of_none h n
  rw [upd_ne e, Sto.put_ne e]; exact ⟨h, s⟩
theorem RelH.newC (h : RelH F H S Z) {p : Addr} (n : H p = none) {xs : List V} {ds : List D} (r : RepA F H S Z xs ds) : RelH F (upd H p (.lst xs)) (S.put p (.lst ds)) Z where
  cells := fun b c' q => by
    by_cases e : b = p
    · subst e
      rw [Sto.put_same] at q; cases q
      exact ⟨xs, upd_same, r.mono (ext_newC n)⟩
    · rw [Sto.put_ne e] at q
      have k := h.cells b c' q
      cases c' with
      | lst ds => obtain ⟨vs, h1, h2⟩ := k; exact ⟨vs, by rw [upd_ne e]; exact h1, h2.mono (ext_newC n)⟩
      | ins C fs =>
        obtain ⟨Ca, dx, vfs, h0, h1, h2, h3, h4, h5⟩ := k
        have q := ext_newC (o := .lst xs) (c := .lst ds) n dx _ h2 h3 (fun _ => nofun)
        exact ⟨Ca, dx, vfs, h0, by rw [upd_ne e]; exact h1, q.1, q.2, h4, h5.mono (ext_newC n)⟩
  zone := fun b z => by
    obtain ⟨h1, ys, h2⟩ := h.zone b z
    have e : b ≠ p := ne_of_none h2 n
    rw [Sto.put_ne e, upd_ne e]
    exact ⟨h1, ys, h2⟩
  scr := fun b ns q => (h.scr b ns q).mono (ext_newC n)
  tabs := h.tabs.ext (same_upd n)
  cod := fun p z => ext_newC n p.1 _ (h.cod p z).1 (h.cod p z).2 (fun _ => LamX.codeO_ne _)
  cap := fun p hp => (h.cap p hp).mono (ext_newC n)
  xds := fun x hx => (h.xds x hx).1.elim fun fs q => have z := ext_newC (o := .lst xs) (c := .lst ds) n x _ q (h.xds x hx).2 (fun _ => nofun); ⟨⟨fs, z.1⟩, z.2⟩
/-- a cell is frozen: from then on it is data -/
theorem RelH.freeze (h : RelH F H S Z) (a : Addr) (nz : ∀ c, S a = some c → ∀ b C fs, S b = some (.ins C fs) → True) : RelH F H (S.del a) Z := by
  have le : ∀ x o, H x = some o → S x = none → (S.del a) x = none := fun x o _ s => by
    by_cases e : x = a
    · subst e; exact Sto.del_same
    · rw [Sto.del_ne e]; exact s
  refine ⟨fun b c q => ?_, fun b z => ?_, fun b ns q => ?_, h.tabs, fun p z => ⟨(h.cod p z).1, le _ _ (h.cod p z).1 (h.cod p z).2⟩, fun p hp => (h.cap p hp).less le fun _ z => z, fun x hx => ⟨(h.xds x hx).1, (h.xds x hx).1.elim fun fs q => le _ _ q (h.xds x hx).2⟩⟩
  · by_cases e : b = a
    · subst e; rw [Sto.del_same] at q; cases q
    · rw [Sto.del_ne e] at q
      have k := h.cells b c q
      cases c with
      | lst ds => obtain ⟨vs, h1, h2⟩ := k; exact ⟨vs, h1, h2.less le fun _ z => z⟩
      | ins C fs =>
        obtain ⟨Ca, dx, vfs, h0, h1, h2, h3, h4, h5⟩ := k
        exact ⟨Ca, dx, vfs, h0, h1, h2, le _ _ h2 h3, h4, h5.less le fun _ z => z⟩
  · obtain ⟨h1, h2⟩ := h.zone b z
    refine ⟨?_, h2⟩
    by_cases e : b = a
    · subst e; exact Sto.del_same
    · rw [Sto.del_ne e]; exact h1
  · rcases h.scr b ns q with ⟨k, s⟩ | k
    · refine .inl ⟨k, ?_, s.2⟩
      rcases k with k | ⟨o, k⟩
      · exact le _ _ k s.1
      · exact le _ _ k s.1
    · exact .inr k
theorem Rep.frozen (h : RelH F H S Z) {a : Addr} {ds : List D} (ha : S a = some (.lst ds)) : Rep F H (S.del a) Z (.ref a) (.list ds) := by
  obtain ⟨vs, h1, h2⟩ := h.cells a _ ha
  refine .lst h1 ⟨Sto.del_same, fun z => ?_⟩ (h2.less (fun x o _ s => ?_) fun _ z => z)
  · have := (h.zone a z).1
    rw [ha] at this; cases this
  · by_cases e : x = a
    · subst e; exact Sto.del_same
    · rw [Sto.del_ne e]; exact s
theorem ext_del {a : Addr} : Ext H S H (S.del a) := fun x o h s _ => ⟨h, by
    by_cases e : x = a
    · subst e; exact Sto.del_same
    · rw [Sto.del_ne e]; exact s⟩
end
end EN

/-! == E1b == -/
set_option Elab.async false
set_option linter.all false
set_option maxRecDepth 100000
set_option maxHeartbeats 4000000
/-! E1b: what makes tuples, with the object that is laid. -/
namespace EN
open PySem PySem.Spec PyProof.Rows L2
section
variable {X : Cx}
/-- a new tuple laid last -/
theorem laidF {pins : List (Addr × Obj)} {σ : L2.St} {H : Hp} {s : Shared} {t' : Nat} {us : List Value} {xs : List V} {Q : VK} (I : Inv X pins σ H s) (r : Vals xs us) (z : xs.length ≤ sizeLine)
    (q : ∀ p its, H p = none → Q (.ref p) (upd H p (.frz (tupObj its) (.tup xs)))) : EP X pins σ Q (.ref s.heap.objs.size) { s with heap := s.heap.push (tupObj us.toArray), toks := t' } :=
  ⟨.ref s.heap.objs.size, _, I.laid (fun _ _ e => Heap.get?_push_of_some _ e) (Nat.le_refl _) (tupF_new (Heap.get?_push_size _ rfl) r z), rfl, q _ _ (I.hok.fresh (Nat.le_refl _))⟩
def rCatF (K : PySem.W.Frag) : R2 := fun x y H Q => ∃ a b xs ys, x = .ref a ∧ y = .ref b ∧ SqT K H a xs ∧ SqT K H b ys ∧ xs.length + ys.length ≤ sizeLine ∧
  (xs = [] → Q (.ref b) H) ∧ (xs ≠ [] → ys = [] → Q (.ref a) H) ∧ (xs ≠ [] → ys ≠ [] → ∀ p its, H p = none → Q (.ref p) (upd H p (.frz (tupObj its) (.tup (xs ++ ys)))))
theorem op_catF : OpR X (binaryOp .Add) (rCatF X.K) := by
  rintro pins s σ H x y v u Q I rx ry ⟨a, b, xs, ys, rfl, rfl, ha, hb, hz, q0, q1, q2⟩
  obtain rfl : v = .ref a := rx
  obtain rfl : u = .ref b := ry
  obtain ⟨us, r1, p1, _⟩ := I.tuple ha
  obtain ⟨ws, r2, p2, _⟩ := I.tuple hb
  cases hx : xs with
  | nil =>
    subst hx
    cases r1
    exact cat_tup0 p1 p2 ⟨.ref b, H, I, rfl, q0 rfl⟩
  | cons x0 xr =>
    have ne : xs ≠ [] := by rw [hx]; exact List.cons_ne_nil _ _
    have e1 := r1.length
    have e2 := r2.length
    refine HT.cat_tup p1 p2 (fun z => ne (r1.nil_iff.mp z)) (fun z => ⟨.ref a, H, I, rfl, q1 ne (r2.nil_iff.mp z)⟩) (fun z => ?_) (by omega)
    exact laidF (t' := s.toks) I (r1.append r2) (by rw [List.length_append]; exact hz) (q2 ne fun w => z (r2.nil_iff.mpr w))
def rRepF (K : PySem.W.Frag) : R2 := fun x y H Q => ∃ l k xs, x = .ref l ∧ y = .int k ∧ SqT K H l xs ∧ xs ≠ [] ∧ 2 ≤ k ∧ k ≤ 1000 ∧ xs.length ≤ 1000 ∧
  ∀ p its, H p = none → Q (.ref p) (upd H p (.frz (tupObj its) (.tup (List.replicate k.toNat xs).flatten)))
theorem op_repF : OpR X (binaryOp .Mult) (rRepF X.K) := by
  rintro pins s σ H x y v u Q I rx ry ⟨l, k, xs, rfl, rfl, hT, hne, h1, h2, hz, q⟩
  obtain rfl : v = .ref l := rx
  obtain ⟨t, rfl⟩ := ry
  obtain ⟨us, r, ⟨⟨cls, dd, data, sl⟩, ho, hc, n, hd⟩, hs⟩ := I.tuple hT
  simp only at hc hd
  subst hc hd
  have hle := r.length
  have pos : 0 < xs.length := List.length_pos_iff.mpr hne
  have hi : us.toArray.isEmpty = false := by
    cases us with
    | nil => rw [hle] at pos; exact absurd pos (Nat.lt_irrefl _)
    | cons _ _ => rfl
  have a1 : k.toNat * xs.length ≤ 1000 * 1000 := Nat.mul_le_mul (by omega) hz
  have a2 : ((us.toArray.size : Nat) : Int) * k ≤ 1000000 := by
    rw [List.size_toArray, ← hle]
    have a3 : ((xs.length : Nat) : Int) * k ≤ 1000 * k := Int.mul_le_mul_of_nonneg_right (by omega) (by omega)
    omega
  have szl := sizeLine_eq
  have fl : (List.replicate k.toNat us).flatten.length ≤ sizeLine := by
    rw [PyProof.Rows.lm_len_rep_flat, ← hle]; omega
  have cA : (decide (k < -(2 ^ 63)) || decide (k ≥ 2 ^ 63)) = false := by simp; omega
  have cB : (us.toArray.isEmpty || k == 1) = false := by rw [hi]; simp; omega
  have cC : (decide (k ≤ 0) || us.toArray.isEmpty) = false := by rw [hi]; simp; omega
  have cD : Builtin.Tuple.tupleTooMany (((us.toArray.size : Nat) : Int) * k) = false := by
    unfold Builtin.Tuple.tupleTooMany
    exact decide_eq_false (by omega)
  refine wpAny_binaryOp_repeat_ref (T := "tuple") (U := "int") (by decide) ⟨_, ho, rfl⟩ (fun s' => typeIs_int s' k t) noFill_tuple_mul F.fills_int_mul F.slot_int_rmul repeat_tuple F.slot_int_index.lookup
    (call_meets F.slot_int_rmul (typeIs_int s k t) F.entry_int_rmul (F.args_int_rmul_2 _ _) (int_rmul_tuple k t l us.toArray n dd sl) ⟨ho, rfl, ⟨_, ho, rfl⟩, ?_⟩)
  refine call_meets F.slot_tuple_mul ⟨_, ho, rfl⟩ F.entry_tuple_mul (F.args_tuple_mul_2 _ _) (tuple_mulW l us.toArray n dd sl k t cA cB cC (by omega) cD (by rw [size_rep, List.size_toArray]; exact fl)) ⟨ho, ?_⟩
  rw [size_rep]
  exact laidF (t' := s.toks) I (r.rep k.toNat) (by rw [PyProof.Rows.lm_len_rep_flat]; omega) q
def rSlF (K : PySem.W.Frag) : V → Option Int → Option Int → Hp → VK → Prop := fun x lo hi H Q => ∃ a xs, x = .ref a ∧ SqT K H a xs ∧
  (HT.sIx xs.length 0 lo = 0 ∧ HT.sIx xs.length xs.length hi = xs.length → Q (.ref a) H) ∧ (¬ (HT.sIx xs.length 0 lo = 0 ∧ HT.sIx xs.length xs.length hi = xs.length) → ∀ p its, H p = none → Q (.ref p) (upd H p (.frz (tupObj its) (.tup (cutV xs lo hi)))))
theorem sl_tupF : SlR X (rSlF X.K) := by
  rintro pins s σ H x v vl vu lo hi sl Q I rx hs pl pu ⟨a, xs, rfl, hx, q1, q2⟩
  obtain rfl : v = .ref a := rx
  obtain ⟨us, r, ht, hz⟩ := I.tuple hx
  have hl : us.toArray.size = xs.length := by rw [List.size_toArray]; exact r.length.symm
  refine ⟨"tuple", _, PyProof.Rows.slot_tuple_getitem.lookup, ht.typeIs, ?_⟩
  by_cases hw : HT.sIx xs.length 0 lo = 0 ∧ HT.sIx xs.length xs.length hi = xs.length
  · exact getItem_tuple_whole ht hs pl pu (by rw [hl]; exact hw) ⟨.ref a, H, I, rfl, q1 hw⟩
  · refine HT.getItem_tuple_cut ht hs pl pu (by rw [hl]; exact hw) ?_ (by rw [hl]; exact hz)
    rw [hl]
    exact laidF (t' := s.toks) I ((r.drop _).take _) (Nat.le_trans (cutV_length xs lo hi) hz) (q2 hw)
theorem call_tupleF : CallR X (.type "tuple") (fun xs H Q => ∃ p ys, xs = [.ref p] ∧ ((SqL X.K H p ys ∧ ∀ l its, H l = none → Q (.ref l) (upd H l (.frz (tupObj its) (.tup ys)))) ∨ (SqT X.K H p ys ∧ Q (.ref p) H))) := by
  rintro pins s σ H xs us Q I r ⟨p, ys, rfl, h⟩
  obtain ⟨u, rfl, ru⟩ := vals1 r
  obtain rfl : u = .ref p := ru
  rcases h with ⟨hs, q⟩ | ⟨hs, q⟩
  · obtain ⟨ws, rv, pl, hz⟩ := I.list hs
    refine call_tuple_list pl.isList (fun h' hk => ?_) (by rw [List.size_toArray, ← rv.length]; exact hz)
    exact laidF (s := { s with heap := h' }) (t' := s.toks) (I.kept (t' := s.toks) hk) rv hz q
  · obtain ⟨ws, rv, pl, hz⟩ := I.tuple hs
    exact call_tuple_tup pl ⟨.ref p, H, I, rfl, q⟩
variable {e : Expr} {es : List Expr} {te : L2.St → Hp → (Int → Int → Hp → Prop) → Prop} {t : TA} {pos : Pos}
def tTupRgF (te : L2.St → Hp → (Int → Int → Hp → Prop) → Prop) : TE := fun σ H Q => te σ H fun a b H1 => RgOk a b ∧ ∀ q its, H1 q = none → Q (.ref q) (upd H1 q (.frz (tupObj its) (.tup (rgV a b))))
theorem pe_tupRgF {p : Pos} (hc : X.calm = true) (hg : Gl X "tuple") (hm : X.mg "tuple" = none) (he : PRg X e te) (na : starEach [e] X.env = (false, eval e X.env) :: starEach [] X.env := by rfl) : PE X (.Call (.Name "tuple" p) [e] [] pos) (tTupRgF te) := by
  refine ⟨fun pins s σ H Q I h => Call_ (ld_blt I hg hm boot_tuple (PyProof.Rows.callWith_type1 (args_cons (thn (he pins s σ H _ I h) ?_) na) na))⟩
  rintro x s1 ⟨r, a, b, t, u, v, H1, rfl, hr, I1, ⟨b1, b2, b3, b4, b5⟩, q⟩
  refine args_nil (call_tuple_range (n := (b - a).toNat) (I1.ok.hd hc) hr (small_one b1 b2 b3 b4) (rangeSize_nat a b) b5 fun h' tk acc hk hi => ?_)
  have z : (rgV a b).length ≤ sizeLine := by rw [rgV_length, sizeLine_eq]; omega
  have := laidF (X := X) (pins := pins) (σ := σ) (s := { s1 with heap := h', toks := tk }) (t' := tk) (I1.kept hk) (vals_rg hi) z q
  rw [Array.toArray_toList] at this
  exact this
def tTupF (t : TA) : TE := fun σ H Q => t σ H fun xs H1 => xs.length ≤ sizeLine ∧ ∀ p its, H1 p = none → Q (.ref p) (upd H1 p (.frz (tupObj its) (.tup xs)))
theorem pe_tupF {x1} (h : PA X es t) : PE X (.Tuple es x1 pos) (tTupF t) :=
  ⟨fun pins s σ H Q I hq => wpAny_Tuple_spliced (thn (h.run pos pins s σ H _ I hq) fun us s1 ⟨xs, H1, I1, r, z, q⟩ => ⟨by rw [← r.length]; exact z, laidF (t' := s1.toks) I1 r z q⟩)⟩
end
end EN

/-! == E2 == -/
set_option Elab.async false
set_option linter.all false
set_option maxRecDepth 100000
set_option maxHeartbeats 4000000
/-! E2: operators on data. -/
namespace EN
open PySem PySem.Spec PyProof.Rows L2

/-- what a piece of code needs of its context -/
structure CtxOk (F : Fx) (X : Cx) : Prop where
  hK : X.K = F.K
  hmg : X.mg = F.mg
  calm : X.calm = true
  nd : X.N.Nodup
  units : X.A.units + 66 < cLine

section
variable {F : Fx} {H H' : Hp} {S S' : Sto} {Z Z' : Addr → Prop}
/-- read now: a list that may be a cell -/
def RepT (F : Fx) (H : Hp) (S : Sto) (Z : Addr → Prop) (v : V) (d : D) : Prop :=
  Rep F H S Z v d ∨ ∃ a xs ds, v = .ref a ∧ d = .list ds ∧ H a = some (.lst xs) ∧ RepA F H S Z xs ds
theorem RepT.of {v : V} {d : D} (r : Rep F H S Z v d) : RepT F H S Z v d := .inl r
theorem RepT.int {v : V} {i : Int} (r : RepT F H S Z v (.int i)) : v = .int i := by
  rcases r with r | ⟨_, _, _, _, e, _⟩
  · cases r; rfl
  · cases e
theorem RepT.bl {v : V} {i : Bool} (r : RepT F H S Z v (.bool i)) : v = .bl i := by
  rcases r with r | ⟨_, _, _, _, e, _⟩
  · cases r; rfl
  · cases e
theorem RepT.str {v : V} {i : Str} (r : RepT F H S Z v (.str i)) : v = .str i := by
  rcases r with r | ⟨_, _, _, _, e, _⟩
  · cases r; rfl
  · cases e
theorem RepT.non {v : V} (r : RepT F H S Z v .none) : v = .non := by
  rcases r with r | ⟨_, _, _, _, e, _⟩
  · cases r; rfl
  · cases e
theorem RepT.lst {v : V} {ds : List D} (r : RepT F H S Z v (.list ds)) : ∃ a xs, v = .ref a ∧ H a = some (.lst xs) ∧ RepA F H S Z xs ds := by
  rcases r with r | ⟨a, xs, ds', e1, e, h, r⟩
  · cases r with
    | lst h _ r => exact ⟨_, _, rfl, h, r⟩
  · cases e; exact ⟨a, xs, e1, h, r⟩
theorem RepT.tup {v : V} {ds : List D} (r : RepT F H S Z v (.tuple ds)) : ∃ a its xs, v = .ref a ∧ H a = some (.frz (tupObj its) (.tup xs)) ∧ S a = none ∧ RepA F H S Z xs ds := by
  rcases r with r | ⟨a, xs, ds', e1, e, h, r⟩
  · cases r with
    | tup h s r => exact ⟨_, _, _, rfl, h, s, r⟩
  · cases e
theorem RepT.dp {K : PySem.W.Frag} {v : V} {d : D} (c : d.canLay0 = true) (r : RepT F H S Z v d) : Dp K H v d := by
  rcases r with r | ⟨a, xs, ds', rfl, rfl, h, r⟩
  · exact r.dp c
  · exact .lst (.of h) (r.dp (by simpa [PyData.canLay0] using c))
theorem RepT.mono (e : Same H H') {v : V} {d : D} (r : RepT F H S Z v d) : RepT F H' S Z v d := by
  rcases r with r | ⟨a, xs, ds', rfl, rfl, h, r⟩
  · exact .inl (r.same e)
  · exact .inr ⟨a, xs, ds', rfl, rfl, e _ _ h, r.same e⟩
/-- what the store says of a thing that is known by its address -/
def rd (S : Sto) : D → D
  | .dict [(.none, .int i)] => match S i.toNat with
    | some (.lst ds) => .list ds
    | _ => .dict [(.none, .int i)]
  | d => d
theorem rd_ref {S : Sto} {a : Addr} : rd S (refD a) = match S a with
    | some (.lst ds) => .list ds
    | _ => refD a := rfl
theorem Rep.rd (h : RelH F H S Z) {v : V} {d : D} (r : Rep F H S Z v d) : RepT F H S Z v (rd S d) := by
  cases r with
  | ref a =>
    rw [rd_ref]
    split
    · rename_i ds e
      obtain ⟨vs, h1, h2⟩ := h.cells a _ e
      exact .inr ⟨a, vs, ds, rfl, rfl, h1, h2⟩
    · exact .inl (.ref a)
  | dic h1 s k =>
    refine .inl ?_
    cases k with
    | nil => exact .dic h1 s .nil
    | @cons k v kvs d ds r t =>
      cases k <;> exact .dic h1 s (.cons r t)
  | non => exact .inl .non
  | bl b => exact .inl (.bl b)
  | int i => exact .inl (.int i)
  | str x => exact .inl (.str x)
  | lst h1 s r => exact .inl (.lst h1 s r)
  | tup h1 s r => exact .inl (.tup h1 s r)
  | fn h1 k => exact .inl (.fn h1 k)
end

/-- an operator on two things, by a function on data -/
def OpD (F : Fx) (X : Cx) (f : Value → Value → Sem Value) (g : D → D → Option D) : Prop :=
  OpR X f fun x y H Q => ∃ S Z dx dy d, RelH F H S Z ∧ RepT F H S Z x dx ∧ RepT F H S Z y dy ∧ g dx dy = some d ∧ ∀ v H', Same H H' → Rep F H' S Z v d → Q v H'

inductive BOp where
  | add | sub | mul | fdiv | mod | pow
inductive COp where
  | eq | ne | lt | le | gt | ge | is | isnot | inn | notin

def addD : D → D → Option D
  | .int i, .int j => some (.int (i + j))
  | .str a, .str b => if a.length + b.length ≤ sizeLine then some (.str (a ++ b)) else none
  | .list a, .list b => if a.length + b.length ≤ sizeLine then some (.list (a ++ b)) else none
  | .tuple a, .tuple b => if a.length + b.length ≤ sizeLine then some (.tuple (a ++ b)) else none
  | _, _ => none
def subD : D → D → Option D
  | .int i, .int j => some (.int (i - j))
  | _, _ => none
def mulD : D → D → Option D
  | .int i, .int j => if (-(2 ^ 64) < i ∧ i < 2 ^ 64) ∨ (-(2 ^ 64) < j ∧ j < 2 ^ 64) then some (.int (i * j)) else none
  | .tuple a, .int k => if a ≠ [] ∧ 1 ≤ k ∧ k ≤ 1000 ∧ a.length ≤ 1000 then some (.tuple (List.replicate k.toNat a).flatten) else none
  | .list a, .int k => if 0 ≤ k ∧ k ≤ 1000 ∧ a.length ≤ 1000 then some (.list (List.replicate k.toNat a).flatten) else none
  | _, _ => none
def fdivD : D → D → Option D
  | .int i, .int j => if 0 < j ∧ j < 1073741824 then some (.int (i / j)) else none
  | _, _ => none
def modD : D → D → Option D
  | .int i, .int j => if 0 < j then some (.int (i % j)) else none
  | _, _ => none
def powD : D → D → Option D
  | .int i, .int j => if 0 ≤ j ∧ j ≤ 1000000 ∧ i.natAbs < 2 ^ 64 then some (.int (i ^ j.toNat)) else none
  | _, _ => none
def op2 : BOp → D → D → Option D
  | .add => addD | .sub => subD | .mul => mulD | .fdiv => fdivD | .mod => modD | .pow => powD
def bop : BOp → Operator
  | .add => .Add | .sub => .Sub | .mul => .Mult | .fdiv => .FloorDiv | .mod => .Mod | .pow => .Pow

def ltD : D → D → Option Bool
  | .int i, .int j => some (decide (i < j))
  | .tuple a, .tuple b => (do let ns ← a.mapM (fun | .int i => some i | _ => none); let ms ← b.mapM (fun | .int i => some i | _ => none); some (HT.lexLt ns ms))
  | _, _ => none
def ordD (p : Int → Int → Bool) : D → D → Option Bool
  | .int i, .int j => some (p i j)
  | _, _ => none
def isNone : D → Bool
  | .none => true
  | _ => false
def isD : D → D → Option Bool
  | x, .none => some (isNone x)
  | .bool a, .bool b => some (decide (a = b))
  | _, _ => none
def eqD (x y : D) : Option Bool := if SeqAt.shaped x && SeqAt.shaped y then some (PyData.eqv x y) else none
def inD : D → D → Option Bool
  | x, .list ds => if SeqAt.shaped x && SeqAt.shaped (.list ds) then some (ds.any fun z => PyData.eqv z x) else none
  | x, .tuple ds => if SeqAt.shaped x && SeqAt.shaped (.tuple ds) then some (ds.any fun z => PyData.eqv z x) else none
  | .str i, .str j => some (!(Builtin.Str.occurrences j i 0 j.length 1).isEmpty)
  | _, _ => none
def cm2 : COp → D → D → Option Bool
  | .eq, x, y => eqD x y
  | .ne, x, y => (eqD x y).map (!·)
  | .lt, x, y => ltD x y
  | .le, x, y => ordD (fun i j => decide (i ≤ j)) x y
  | .gt, x, y => ordD (fun i j => decide (j < i)) x y
  | .ge, x, y => ordD (fun i j => decide (j ≤ i)) x y
  | .is, x, y => isD x y
  | .isnot, x, y => (isD x y).map (!·)
  | .inn, x, y => inD x y
  | .notin, x, y => (inD x y).map (!·)
def cop : COp → CmpOp
  | .eq => .Eq | .ne => .NotEq | .lt => .Lt | .le => .LtE | .gt => .Gt | .ge => .GtE | .is => .Is | .isnot => .IsNot | .inn => .In | .notin => .NotIn

section
variable {F : Fx} {X : Cx}
theorem rep_flat {F : Fx} {H : Hp} {S : Sto} {Z : Addr → Prop} {xs : List V} {ds : List D} (r : RepA F H S Z xs ds) : ∀ k : Nat, RepA F H S Z (List.replicate k xs).flatten (List.replicate k ds).flatten
  | 0 => .nil
  | k + 1 => by
    rw [List.replicate_succ, List.replicate_succ, List.flatten_cons, List.flatten_cons]
    exact r.append (rep_flat r k)
theorem add_ok (c : CtxOk F X) : OpD F X (binaryOp .Add) addD := by
  intro pins s σ H x y v u Q I rx ry h
  obtain ⟨S, Z, dx, dy, d, hR, hx, hy, hg, q⟩ := h
  unfold addD at hg
  split at hg
  · cases hg; cases hx.int; cases hy.int
    exact op_add pins s σ H _ _ v u Q I rx ry ⟨_, _, rfl, rfl, q _ _ (Same.refl _) (.int _)⟩
  · split at hg
    · cases hg; cases hx.str; cases hy.str
      exact op_add_str pins s σ H _ _ v u Q I rx ry ⟨_, _, rfl, rfl, by assumption, q _ _ (Same.refl _) (.str _)⟩
    · cases hg
  · split at hg
    · rename_i hl
      cases hg
      obtain ⟨a, xs, rfl, h1, r1⟩ := hx.lst
      obtain ⟨b, ys, rfl, h2, r2⟩ := hy.lst
      exact op_cat pins s σ H _ _ v u Q I rx ry ⟨a, b, xs, ys, rfl, rfl, h1, h2, by rw [r1.length, r2.length]; exact hl, fun p n => q _ _ (same_upd n) (Rep.newL hR n (r1.append r2))⟩
    · cases hg
  · split at hg
    · rename_i hl
      cases hg
      obtain ⟨a, its1, xs, rfl, h1, s1, r1⟩ := hx.tup
      obtain ⟨b, its2, ys, rfl, h2, s2, r2⟩ := hy.tup
      refine op_catF pins s σ H _ _ v u Q I rx ry ⟨a, b, xs, ys, rfl, rfl, sqF h1, sqF h2, by rw [r1.length, r2.length]; exact hl, fun e => ?_, fun _ e => ?_, fun _ _ p its n => q _ _ (same_upd n) (Rep.newT hR n (r1.append r2))⟩
      · subst e; cases r1
        exact q _ _ (Same.refl _) (.tup h2 s2 r2)
      · subst e; cases r2
        rw [List.append_nil] at q
        exact q _ _ (Same.refl _) (.tup h1 s1 r1)
    · cases hg
  · cases hg
theorem sub_ok (c : CtxOk F X) : OpD F X (binaryOp .Sub) subD := by
  intro pins s σ H x y v u Q I rx ry h
  obtain ⟨S, Z, dx, dy, d, hR, hx, hy, hg, q⟩ := h
  unfold subD at hg
  split at hg
  · cases hg; cases hx.int; cases hy.int
    exact op_sub pins s σ H _ _ v u Q I rx ry ⟨_, _, rfl, rfl, q _ _ (Same.refl _) (.int _)⟩
  · cases hg
theorem fdiv_ok (c : CtxOk F X) : OpD F X (binaryOp .FloorDiv) fdivD := by
  intro pins s σ H x y v u Q I rx ry h
  obtain ⟨S, Z, dx, dy, d, hR, hx, hy, hg, q⟩ := h
  unfold fdivD at hg
  split at hg
  · split at hg
    · cases hg; cases hx.int; cases hy.int
      exact op_fdiv pins s σ H _ _ v u Q I rx ry ⟨_, _, rfl, rfl, by assumption, q _ _ (Same.refl _) (.int _)⟩
    · cases hg
  · cases hg
theorem mod_ok (c : CtxOk F X) : OpD F X (binaryOp .Mod) modD := by
  intro pins s σ H x y v u Q I rx ry h
  obtain ⟨S, Z, dx, dy, d, hR, hx, hy, hg, q⟩ := h
  unfold modD at hg
  split at hg
  · split at hg
    · cases hg; cases hx.int; cases hy.int
      exact op_mod pins s σ H _ _ v u Q I rx ry ⟨_, _, rfl, rfl, by assumption, q _ _ (Same.refl _) (.int _)⟩
    · cases hg
  · cases hg
theorem pow_ok (c : CtxOk F X) : OpD F X (binaryOp .Pow) powD := by
  intro pins s σ H x y v u Q I rx ry h
  obtain ⟨S, Z, dx, dy, d, hR, hx, hy, hg, q⟩ := h
  unfold powD at hg
  split at hg
  · split at hg
    · cases hg; cases hx.int; cases hy.int
      exact op_pow pins s σ H _ _ v u Q I rx ry ⟨_, _, rfl, rfl, by assumption, q _ _ (Same.refl _) (.int _)⟩
    · cases hg
  · cases hg

/-- t * 1 is t itself -/
theorem tuple_mul1 (l : Addr) (items : Array Value) (n : Nat) (dd : Option Addr) (sl : Array (Option Value)) (u : Tok) :
    Meets (Builtin.«tuple.__mul__» ⟨[.ref l, .int 1 u], []⟩) (fun _ R s => s.heap.get? l = some { cls := .type "tuple", dict := dd, data := .seq items n, slots := sl } ∧
      R (.ok (.ret (Value.ref l))) s) :=
  .of_wp fun prog w A R s h => by
    obtain ⟨hp, g, d, tk, os⟩ := s
    obtain ⟨hl, h⟩ := h
    have f1 := AutoSeq1.idx_int
    wp_walk using wpAny_loadPart' hl
    repeat (first
      | (refine wpAny_ite_false (by decide) ?_; wp_walk using wpAny_loadPart' hl)
      | (refine wpAny_ite_true (by rw [Bool.or_eq_true]; exact .inr rfl) ?_; wp_walk using wpAny_loadPart' hl)
      | (refine wpAny_ite_true (by rfl) ?_; wp_walk using wpAny_loadPart' hl))
    exact ⟨_, rfl, h⟩
theorem op_repT1 {pins : List (Addr × Obj)} {s : Shared} {σ : L2.St} {H : Hp} {l : Addr} {xs : List V} {v u : Value} {Q : VK} (I : Inv X pins σ H s) (rx : RelV (.ref l) v) (ry : RelV (.int 1) u) (hT : SqT X.K H l xs) (q : Q (.ref l) H) :
    wpAny (model X.prog X.w) X.A (binaryOp .Mult v u) (EP X pins σ Q) X.xe s := by
  cases rx
  obtain ⟨t, rfl⟩ := ry
  obtain ⟨its, r, ⟨⟨cls, dd, data, sl⟩, ho, hc, n, hd⟩, hs⟩ := I.tuple hT
  simp only at hc hd
  subst hc hd
  exact wpAny_binaryOp_repeat_ref (T := "tuple") (U := "int") (by decide) ⟨_, ho, rfl⟩ (fun s' => typeIs_int s' 1 t) noFill_tuple_mul F.fills_int_mul F.slot_int_rmul repeat_tuple F.slot_int_index.lookup
    (call_meets F.slot_int_rmul (typeIs_int s 1 t) F.entry_int_rmul (F.args_int_rmul_2 _ _) (int_rmul_tuple 1 t l its.toArray n dd sl)
      ⟨ho, rfl, ⟨_, ho, rfl⟩, call_meets F.slot_tuple_mul ⟨_, ho, rfl⟩ F.entry_tuple_mul (F.args_tuple_mul_2 _ _) (tuple_mul1 l its.toArray n dd sl t) ⟨ho, ⟨.ref l, H, I, rfl, q⟩⟩⟩)
theorem mul_ok (c : CtxOk F X) : OpD F X (binaryOp .Mult) mulD := by
  intro pins s σ H x y v u Q I rx ry h
  obtain ⟨S, Z, dx, dy, d, hR, hx, hy, hg, q⟩ := h
  unfold mulD at hg
  split at hg
  · split at hg
    · cases hg; cases hx.int; cases hy.int
      exact op_mul pins s σ H _ _ v u Q I rx ry ⟨_, _, rfl, rfl, by assumption, q _ _ (Same.refl _) (.int _)⟩
    · cases hg
  · split at hg
    · rename_i a k hh
      obtain ⟨hne, h1, h2, h3⟩ := hh
      cases hg; cases hy.int
      obtain ⟨l, its4, xs, rfl, h4, s4, r4⟩ := hx.tup
      by_cases e : k = 1
      · subst e
        have e1 : (List.replicate (Int.toNat 1) a).flatten = a := by simp
        rw [e1] at q
        exact op_repT1 I rx ry (sqF h4) (q _ _ (Same.refl _) (.tup h4 s4 r4))
      · exact op_repF pins s σ H _ _ v u Q I rx ry ⟨l, k, xs, rfl, rfl, sqF h4, (fun z => hne (by subst z; cases r4; rfl)), by omega, h2, by rw [r4.length]; exact h3, fun p its n => q _ _ (same_upd n) (Rep.newT hR n (rep_flat r4 _))⟩
    · cases hg
  · split at hg
    · rename_i a k hh
      obtain ⟨h1, h2, h3⟩ := hh
      cases hg; cases hy.int
      obtain ⟨l, xs, rfl, h4, r4⟩ := hx.lst
      refine op_rep pins s σ H _ _ v u Q I rx ry ⟨l, k, xs, rfl, rfl, h4, by omega, by omega, ?_, fun p n => q _ _ (same_upd n) (Rep.newL hR n (rep_flat r4 _))⟩
      rw [r4.length, sizeLine_eq]
      have : a.length * k.toNat ≤ 1000 * 1000 := Nat.mul_le_mul h3 (by omega)
      omega
    · cases hg
  · cases hg
theorem bin_ok (c : CtxOk F X) : ∀ o : BOp, OpD F X (binaryOp (bop o)) (op2 o)
  | .add => add_ok c
  | .sub => sub_ok c
  | .mul => mul_ok c
  | .fdiv => fdiv_ok c
  | .mod => mod_ok c
  | .pow => pow_ok c

/-! ### comparisons -/
theorem mapM_ints : ∀ {a : List D} {ns : List Int}, a.mapM (fun (x : D) => match x with | .int i => some i | _ => none) = some ns → a = ns.map PyData.int
  | [], ns, h => by
    simp at h; subst h; rfl
  | d :: a, ns, h => by
    rw [List.mapM_cons] at h
    cases d with
    | int i =>
      simp only [Option.bind_eq_bind, Option.bind_some] at h
      cases e : a.mapM (fun (x : D) => match x with | .int i => some i | _ => none) with
      | none => rw [e] at h; cases h
      | some ms =>
        rw [e] at h
        cases h
        rw [mapM_ints e]; rfl
    | _ => simp at h
def cmD (o : COp) (x y : D) : Option D := (cm2 o x y).map .bool
theorem shaped_lay {d : D} (h : SeqAt.shaped d = true) : d.canLay0 = true := SeqAt.canLay_of_shaped h
theorem rep_bl {H : Hp} {S : Sto} {Z : Addr → Prop} {b : Bool} {d : D} (e : some (PyData.bool b) = some d) : Rep F H S Z (.bl b) d := by cases e; exact .bl b
theorem eqD_spec {x y : D} {b : Bool} (h : eqD x y = some b) : SeqAt.shaped x = true ∧ SeqAt.shaped y = true ∧ b = PyData.eqv x y := by
  unfold eqD at h
  split at h
  · rename_i hh
    rw [Bool.and_eq_true] at hh
    exact ⟨hh.1, hh.2, (Option.some.inj h).symm⟩
  · cases h
theorem in_any {pins : List (Addr × Obj)} {s : Shared} {σ : L2.St} {H : Hp} {S : Sto} {Z : Addr → Prop} {x y : V} {v u : Value} {dx dy : D} {b : Bool} {neg : Bool} {Q : VK} (c : CtxOk F X) (I : Inv X pins σ H s) (rx : RelV x v) (ry : RelV y u) (hx : RepT F H S Z x dx) (hy : RepT F H S Z y dy)
    (hg : inD dx dy = some b) (q : Q (.bl (if neg then !b else b)) H) : wpAny (model X.prog X.w) X.A (compareOp (if neg then .NotIn else .In) v u) (EP X pins σ Q) X.xe s := by
  have hu : X.A.units + 65 < cLine := Nat.lt_of_le_of_lt (by omega) c.units
  unfold inD at hg
  split at hg
  · split at hg
    · rename_i hh
      rw [Bool.and_eq_true] at hh
      cases hg
      have d1 := hx.dp (K := X.K) (shaped_lay hh.1)
      have d2 := hy.dp (K := X.K) (shaped_lay hh.2)
      cases neg with
      | false => exact op_inD hu pins s σ H _ _ v u Q I rx ry ⟨_, _, d1, d2, hh.1, hh.2, q⟩
      | true => exact op_notInD hu pins s σ H _ _ v u Q I rx ry ⟨_, _, d1, d2, hh.1, hh.2, q⟩
    · cases hg
  · split at hg
    · rename_i hh
      rw [Bool.and_eq_true] at hh
      cases hg
      have d1 := hx.dp (K := X.K) (shaped_lay hh.1)
      have d2 := hy.dp (K := X.K) (shaped_lay hh.2)
      obtain ⟨as, r1⟩ := Dp.reads I _ _ _ d1 rx
      obtain ⟨bs, r2⟩ := Dp.reads I _ _ _ d2 ry
      cases neg with
      | false => exact SeqAt.in_tuple_reads r2 r1 (SeqAt.canLay_of_shaped hh.2) (SeqAt.canLay_of_shaped hh.1) (room_in_shaped hh.1 hu) ⟨.bl _, H, I, rfl, q⟩
      | true => exact SeqAt.notIn_tuple_reads r2 r1 (SeqAt.canLay_of_shaped hh.2) (SeqAt.canLay_of_shaped hh.1) (room_in_shaped hh.1 hu) ⟨.bl _, H, I, rfl, q⟩
    · cases hg
  · cases hg; cases hx.str; cases hy.str
    cases neg with
    | false => exact op_in_str pins s σ H _ _ v u Q I rx ry ⟨_, _, rfl, rfl, q⟩
    | true => exact op_notin_str pins s σ H _ _ v u Q I rx ry ⟨_, _, rfl, rfl, q⟩
  · cases hg

theorem rep_none {H : Hp} {S : Sto} {Z : Addr → Prop} {v : V} {d : D} (r : RepT F H S Z v d) : decide (v = .non) = isNone d := by
  rcases r with r | ⟨_, _, _, rfl, rfl, _, _⟩
  · cases r <;> rfl
  · rfl
theorem is_any {pins : List (Addr × Obj)} {s : Shared} {σ : L2.St} {H : Hp} {S : Sto} {Z : Addr → Prop} {x y : V} {v u : Value} {dx dy : D} {b : Bool} {neg : Bool} {Q : VK} (I : Inv X pins σ H s) (rx : RelV x v) (ry : RelV y u) (hx : RepT F H S Z x dx) (hy : RepT F H S Z y dy)
    (hg : isD dx dy = some b) (q : Q (.bl (if neg then !b else b)) H) : wpAny (model X.prog X.w) X.A (compareOp (if neg then .IsNot else .Is) v u) (EP X pins σ Q) X.xe s := by
  unfold isD at hg
  split at hg
  · cases hg; cases hy.non
    rw [← rep_none hx] at q
    cases neg with
    | false => exact op_isN pins s σ H _ _ v u Q I rx ry ⟨rfl, q⟩
    | true => exact op_notN pins s σ H _ _ v u Q I rx ry ⟨rfl, q⟩
  · cases hg; cases hx.bl; cases hy.bl
    cases neg with
    | false => exact op_isBl pins s σ H _ _ v u Q I rx ry ⟨_, _, rfl, rfl, q⟩
    | true => exact op_notBl pins s σ H _ _ v u Q I rx ry ⟨_, _, rfl, rfl, q⟩
  · cases hg
theorem ord_any {op : CmpOp} {p : Int → Int → Bool} (ho : OpR X (compareOp op) (rI0 fun i j => .bl (p i j))) {pins : List (Addr × Obj)} {s : Shared} {σ : L2.St} {H : Hp} {S : Sto} {Z : Addr → Prop} {x y : V} {v u : Value} {dx dy : D} {b : Bool} {Q : VK} (I : Inv X pins σ H s) (rx : RelV x v) (ry : RelV y u) (hx : RepT F H S Z x dx) (hy : RepT F H S Z y dy)
    (hg : ordD p dx dy = some b) (q : Q (.bl b) H) : wpAny (model X.prog X.w) X.A (compareOp op v u) (EP X pins σ Q) X.xe s := by
  unfold ordD at hg
  split at hg
  · cases hg; cases hx.int; cases hy.int
    exact ho pins s σ H _ _ v u Q I rx ry ⟨_, _, rfl, rfl, q⟩
  · cases hg
theorem lt_any (c : CtxOk F X) {pins : List (Addr × Obj)} {s : Shared} {σ : L2.St} {H : Hp} {S : Sto} {Z : Addr → Prop} {x y : V} {v u : Value} {dx dy : D} {b : Bool} {Q : VK} (I : Inv X pins σ H s) (rx : RelV x v) (ry : RelV y u) (hx : RepT F H S Z x dx) (hy : RepT F H S Z y dy)
    (hg : ltD dx dy = some b) (q : Q (.bl b) H) : wpAny (model X.prog X.w) X.A (compareOp .Lt v u) (EP X pins σ Q) X.xe s := by
  unfold ltD at hg
  split at hg
  · cases hg; cases hx.int; cases hy.int
    exact op_lt pins s σ H _ _ v u Q I rx ry ⟨_, _, rfl, rfl, q⟩
  · rename_i a b'
    simp only [Option.bind_eq_bind, Option.bind_eq_some_iff] at hg
    obtain ⟨ns, h1, ms, h2, hg⟩ := hg
    cases hg
    obtain ⟨l, its1, xs, rfl, e1, s1, r1⟩ := hx.tup
    obtain ⟨m, its2, ys, rfl, e2, s2, r2⟩ := hy.tup
    have q1 := mapM_ints h1
    have q2 := mapM_ints h2
    subst q1 q2
    have z1 := r1.of_ints
    have z2 := r2.of_ints
    subst z1 z2
    exact op_ltT (Nat.lt_of_le_of_lt (Nat.le_add_right _ _) c.units) pins s σ H _ _ v u Q I rx ry ⟨l, m, ns, ms, rfl, rfl, sqF e1, sqF e2, q⟩
  · cases hg
theorem cmp_ok (c : CtxOk F X) (o : COp) : OpD F X (compareOp (cop o)) (cmD o) := by
  intro pins s σ H x y v u Q I rx ry h
  obtain ⟨S, Z, dx, dy, d, hR, hx, hy, hg, q⟩ := h
  unfold cmD at hg
  cases e : cm2 o dx dy with
  | none => rw [e] at hg; cases hg
  | some b =>
    rw [e] at hg
    cases hg
    have q : Q (.bl b) H := q _ _ (Same.refl _) (.bl b)
    cases o with
    | eq =>
      obtain ⟨a1, a2, rfl⟩ := eqD_spec e
      exact op_eqD (Nat.lt_of_le_of_lt (by omega) c.units) pins s σ H _ _ v u Q I rx ry ⟨dx, dy, hx.dp (shaped_lay a1), hy.dp (shaped_lay a2), a1, a2, q⟩
    | ne =>
      have e : (eqD dx dy).map (!·) = some b := e
      cases e2 : eqD dx dy with
      | none => rw [e2] at e; cases e
      | some b2 =>
        rw [e2] at e; cases e
        obtain ⟨a1, a2, rfl⟩ := eqD_spec e2
        exact op_neD (Nat.lt_of_le_of_lt (by omega) c.units) pins s σ H _ _ v u Q I rx ry ⟨dx, dy, hx.dp (shaped_lay a1), hy.dp (shaped_lay a2), a1, a2, q⟩
    | lt => exact lt_any c I rx ry hx hy e q
    | le => exact ord_any op_le I rx ry hx hy e q
    | gt => exact ord_any op_gt I rx ry hx hy e q
    | ge => exact ord_any op_ge I rx ry hx hy e q
    | is => exact is_any (neg := false) I rx ry hx hy e q
    | isnot =>
      have e : (isD dx dy).map (!·) = some b := e
      cases e2 : isD dx dy with
      | none => rw [e2] at e; cases e
      | some b2 => rw [e2] at e; cases e; exact is_any (neg := true) I rx ry hx hy e2 q
    | inn => exact in_any (neg := false) c I rx ry hx hy e q
    | notin =>
      have e : (inD dx dy).map (!·) = some b := e
      cases e2 : inD dx dy with
      | none => rw [e2] at e; cases e
      | some b2 => rw [e2] at e; cases e; exact in_any (neg := true) c I rx ry hx hy e2 q
end
end EN

/-! == E3 == -/
set_option Elab.async false
set_option linter.all false
set_option maxRecDepth 100000
set_option maxHeartbeats 4000000
/-! E3: built-in calls on data. -/
namespace EN
open PySem PySem.Spec PyProof.Rows L2

inductive RepTA (F : Fx) (H : Hp) (S : Sto) (Z : Addr → Prop) : List V → List D → Prop
  | nil : RepTA F H S Z [] []
  | cons {v : V} {vs : List V} {d : D} {ds : List D} : RepT F H S Z v d → RepTA F H S Z vs ds → RepTA F H S Z (v :: vs) (d :: ds)
theorem RepTA.one {F : Fx} {H : Hp} {S : Sto} {Z : Addr → Prop} {vs : List V} {d : D} (r : RepTA F H S Z vs [d]) : ∃ v, vs = [v] ∧ RepT F H S Z v d := by
  cases r with
  | cons r t => cases t; exact ⟨_, rfl, r⟩
theorem RepTA.two {F : Fx} {H : Hp} {S : Sto} {Z : Addr → Prop} {vs : List V} {d e : D} (r : RepTA F H S Z vs [d, e]) : ∃ v w, vs = [v, w] ∧ RepT F H S Z v d ∧ RepT F H S Z w e := by
  cases r with
  | cons r t =>
    cases t with
    | cons r' t => cases t; exact ⟨_, _, rfl, r, r'⟩

/-- a call of a built-in, by a function on data -/
def CallD (F : Fx) (X : Cx) (f : Value) (g : List D → Option D) : Prop :=
  CallR X f fun xs H Q => ∃ S Z ds d, RelH F H S Z ∧ RepTA F H S Z xs ds ∧ g ds = some d ∧ ∀ v H', Same H H' → Rep F H' S Z v d → Q v H'
/-- of one argument -/
def Call1 (F : Fx) (X : Cx) (f : Value) (g : D → Option D) : Prop :=
  CallR X f fun xs H Q => ∃ S Z x dx d, xs = [x] ∧ RelH F H S Z ∧ RepT F H S Z x dx ∧ g dx = some d ∧ ∀ v H', Same H H' → Rep F H' S Z v d → Q v H'

/-! ### small ones -/
def lenD : D → Option D
  | .list ds => some (.int ds.length)
  | .tuple ds => some (.int ds.length)
  | .str z => if z.length ≤ sizeLine then some (.int z.length) else none
  | _ => none
def absD : D → Option D
  | .int i => some (.int (if i < 0 then -i else i))
  | _ => none
def asInts (ds : List D) : Option (List Int) := ds.mapM fun (x : D) => match x with | .int i => some i | _ => none
def asBls (ds : List D) : Option (List Bool) := ds.mapM fun (x : D) => match x with | .bool i => some i | _ => none
def asStrs (ds : List D) : Option (List Str) := ds.mapM fun (x : D) => match x with | .str i => some i | _ => none
theorem asInts_eq {ds : List D} {ns : List Int} (h : asInts ds = some ns) : ds = ns.map PyData.int := mapM_ints h
theorem asBls_eq : ∀ {a : List D} {ns : List Bool}, asBls a = some ns → a = ns.map PyData.bool
  | [], ns, h => by
    simp [asBls] at h; subst h; rfl
  | d :: a, ns, h => by
    unfold asBls at h
    rw [List.mapM_cons] at h
    cases d with
    | bool i =>
      simp only [Option.bind_eq_bind, Option.bind_some] at h
      cases e : asBls a with
      | none => unfold asBls at e; rw [e] at h; cases h
      | some ms =>
        unfold asBls at e
        rw [e] at h
        cases h
        rw [asBls_eq (a := a) e]; rfl
    | _ => simp at h
theorem asStrs_eq : ∀ {a : List D} {ns : List Str}, asStrs a = some ns → a = ns.map PyData.str
  | [], ns, h => by
    simp [asStrs] at h; subst h; rfl
  | d :: a, ns, h => by
    unfold asStrs at h
    rw [List.mapM_cons] at h
    cases d with
    | str i =>
      simp only [Option.bind_eq_bind, Option.bind_some] at h
      cases e : asStrs a with
      | none => unfold asStrs at e; rw [e] at h; cases h
      | some ms =>
        unfold asStrs at e
        rw [e] at h
        cases h
        rw [asStrs_eq (a := a) e]; rfl
    | _ => simp at h
theorem asInts_map : ∀ (ns : List Int), asInts (ns.map PyData.int) = some ns
  | [] => rfl
  | n :: ns => by
    have ih := asInts_map ns
    unfold asInts at ih ⊢
    rw [List.map_cons, List.mapM_cons, ih]; rfl
theorem asBls_map : ∀ (ns : List Bool), asBls (ns.map PyData.bool) = some ns
  | [] => rfl
  | n :: ns => by
    have ih := asBls_map ns
    unfold asBls at ih ⊢
    rw [List.map_cons, List.mapM_cons, ih]; rfl
theorem asStrs_map : ∀ (ns : List Str), asStrs (ns.map PyData.str) = some ns
  | [] => rfl
  | n :: ns => by
    have ih := asStrs_map ns
    unfold asStrs at ih ⊢
    rw [List.map_cons, List.mapM_cons, ih]; rfl
def sumD : D → Option D
  | .list ds => (asInts ds).map fun ns => .int ns.sum
  | _ => none
/-- the greatest of x and ns -/
def maxI (x : Int) (ns : List Int) : Int := ns.foldl (fun a b => if b > a then b else a) x
def minI (x : Int) (ns : List Int) : Int := ns.foldl (fun a b => if b < a then b else a) x
theorem maxI_spec : ∀ (ns : List Int) (x : Int), maxI x ns ∈ x :: ns ∧ ∀ y ∈ x :: ns, y ≤ maxI x ns
  | [], x => ⟨by simp [maxI], by simp [maxI]⟩
  | b :: ns, x => by
    obtain ⟨h1, h2⟩ := maxI_spec ns (if b > x then b else x)
    have e : maxI x (b :: ns) = maxI (if b > x then b else x) ns := rfl
    rw [e]
    generalize maxI (if b > x then b else x) ns = m at *
    refine ⟨?_, fun y hy => ?_⟩
    · rcases List.mem_cons.mp h1 with h | h
      · rw [h]; split <;> simp
      · simp [h]
    · have h0 := h2 _ List.mem_cons_self
      rcases List.mem_cons.mp hy with h | h
      · subst h; split at h0 <;> omega
      · rcases List.mem_cons.mp h with h | h
        · subst h; split at h0 <;> omega
        · exact h2 y (List.mem_cons_of_mem _ h)
theorem minI_spec : ∀ (ns : List Int) (x : Int), minI x ns ∈ x :: ns ∧ ∀ y ∈ x :: ns, minI x ns ≤ y
  | [], x => ⟨by simp [minI], by simp [minI]⟩
  | b :: ns, x => by
    obtain ⟨h1, h2⟩ := minI_spec ns (if b < x then b else x)
    have e : minI x (b :: ns) = minI (if b < x then b else x) ns := rfl
    rw [e]
    generalize minI (if b < x then b else x) ns = m at *
    refine ⟨?_, fun y hy => ?_⟩
    · rcases List.mem_cons.mp h1 with h | h
      · rw [h]; split <;> simp
      · simp [h]
    · have h0 := h2 _ List.mem_cons_self
      rcases List.mem_cons.mp hy with h | h
      · subst h; split at h0 <;> omega
      · rcases List.mem_cons.mp h with h | h
        · subst h; split at h0 <;> omega
        · exact h2 y (List.mem_cons_of_mem _ h)
def maxD : D → Option D
  | .list ds => match asInts ds with
    | some (x :: ns) => some (.int (maxI x ns))
    | _ => none
  | _ => none
def allD : D → Option D
  | .list ds => (asBls ds).map fun bs => .bool (bs.all id)
  | _ => none
def anyD : D → Option D
  | .list ds => (asBls ds).map fun bs => .bool (bs.any id)
  | _ => none
def tupleD : D → Option D
  | .list ds => some (.tuple ds)
  | .tuple ds => some (.tuple ds)
  | _ => none
def listD : D → Option D
  | .list ds => some (.list ds)
  | .tuple ds => some (.list ds)
  | _ => none
section
variable {F : Fx} {X : Cx}
theorem len_ok (c : CtxOk F X) : Call1 F X (.builtin "len") lenD := by
  intro pins s σ H xs us Q I r h
  obtain ⟨S, Z, x, dx, d, rfl, hR, hx, hg, q⟩ := h
  unfold lenD at hg
  split at hg
  · cases hg
    obtain ⟨a, ys, rfl, h1, r1⟩ := hx.lst
    refine call_len_seq pins s σ H _ us Q I r ⟨a, ys, rfl, .inl (.of h1), ?_⟩
    rw [r1.length]
    exact q _ _ (Same.refl _) (.int _)
  · cases hg
    obtain ⟨a, its1, ys, rfl, h1, s1, r1⟩ := hx.tup
    refine call_len_seq pins s σ H _ us Q I r ⟨a, ys, rfl, .inr (sqF h1), ?_⟩
    rw [r1.length]
    exact q _ _ (Same.refl _) (.int _)
  · split at hg
    · cases hg; cases hx.str
      exact call_len_str pins s σ H _ us Q I r ⟨_, rfl, by assumption, q _ _ (Same.refl _) (.int _)⟩
    · cases hg
  · cases hg
theorem abs_ok (c : CtxOk F X) : Call1 F X (.builtin "abs") absD := by
  intro pins s σ H xs us Q I r h
  obtain ⟨S, Z, x, dx, d, rfl, hR, hx, hg, q⟩ := h
  unfold absD at hg
  split at hg
  · cases hg; cases hx.int
    exact call_abs pins s σ H _ us Q I r ⟨_, rfl, q _ _ (Same.refl _) (.int _)⟩
  · cases hg
theorem sum_ok (c : CtxOk F X) : Call1 F X (.builtin "sum") sumD := by
  intro pins s σ H xs us Q I r h
  obtain ⟨S, Z, x, dx, d, rfl, hR, hx, hg, q⟩ := h
  unfold sumD at hg
  split at hg
  · rename_i ds
    cases e : asInts ds with
    | none => rw [e] at hg; cases hg
    | some ns =>
      rw [e] at hg; cases hg
      obtain ⟨a, ys, rfl, h1, r1⟩ := hx.lst
      have e1 := asInts_eq e
      subst e1
      cases r1.of_ints
      exact cr_sum c.calm pins s σ H _ us Q I r ⟨a, ns, rfl, .of h1, q _ _ (Same.refl _) (.int _)⟩
  · cases hg
theorem max_ok (c : CtxOk F X) : Call1 F X (.builtin "max") maxD := by
  intro pins s σ H xs us Q I r h
  obtain ⟨S, Z, x, dx, d, rfl, hR, hx, hg, q⟩ := h
  unfold maxD at hg
  split at hg
  · rename_i ds
    split at hg
    · rename_i y ns e
      cases hg
      obtain ⟨a, ys, rfl, h1, r1⟩ := hx.lst
      have e1 := asInts_eq e
      subst e1
      cases r1.of_ints
      refine cr_max c.calm pins s σ H _ us Q I r ⟨a, y :: ns, rfl, .of h1, Nat.succ_pos _, fun m h2 h3 => ?_⟩
      obtain ⟨g1, g2⟩ := maxI_spec ns y
      have : m = maxI y ns := Int.le_antisymm (g2 m h2) (h3 _ g1)
      subst this
      exact q _ _ (Same.refl _) (.int _)
    · cases hg
  · cases hg
theorem all_ok (c : CtxOk F X) : Call1 F X (.builtin "all") allD := by
  intro pins s σ H xs us Q I r h
  obtain ⟨S, Z, x, dx, d, rfl, hR, hx, hg, q⟩ := h
  unfold allD at hg
  split at hg
  · rename_i ds
    cases e : asBls ds with
    | none => rw [e] at hg; cases hg
    | some ns =>
      rw [e] at hg; cases hg
      obtain ⟨a, ys, rfl, h1, r1⟩ := hx.lst
      have e1 := asBls_eq e
      subst e1
      cases r1.of_bls
      exact cr_all c.calm pins s σ H _ us Q I r ⟨a, ns, rfl, .of h1, q _ _ (Same.refl _) (.bl _)⟩
  · cases hg
theorem any_ok (c : CtxOk F X) : Call1 F X (.builtin "any") anyD := by
  intro pins s σ H xs us Q I r h
  obtain ⟨S, Z, x, dx, d, rfl, hR, hx, hg, q⟩ := h
  unfold anyD at hg
  split at hg
  · rename_i ds
    cases e : asBls ds with
    | none => rw [e] at hg; cases hg
    | some ns =>
      rw [e] at hg; cases hg
      obtain ⟨a, ys, rfl, h1, r1⟩ := hx.lst
      have e1 := asBls_eq e
      subst e1
      cases r1.of_bls
      exact cr_any c.calm pins s σ H _ us Q I r ⟨a, ns, rfl, .of h1, q _ _ (Same.refl _) (.bl _)⟩
  · cases hg
theorem tuple_ok (c : CtxOk F X) : Call1 F X (.type "tuple") tupleD := by
  intro pins s σ H xs us Q I r h
  obtain ⟨S, Z, x, dx, d, rfl, hR, hx, hg, q⟩ := h
  unfold tupleD at hg
  split at hg
  · cases hg
    obtain ⟨a, ys, rfl, h1, r1⟩ := hx.lst
    exact call_tupleF pins s σ H _ us Q I r ⟨a, ys, rfl, .inl ⟨.of h1, fun l its n => q _ _ (same_upd n) (Rep.newT hR n r1)⟩⟩
  · cases hg
    obtain ⟨a, its1, ys, rfl, h1, s1, r1⟩ := hx.tup
    exact call_tupleF pins s σ H _ us Q I r ⟨a, ys, rfl, .inr ⟨sqF h1, q _ _ (Same.refl _) (.tup h1 s1 r1)⟩⟩
  · cases hg
theorem list_ok (c : CtxOk F X) : Call1 F X (.type "list") listD := by
  intro pins s σ H xs us Q I r h
  obtain ⟨S, Z, x, dx, d, rfl, hR, hx, hg, q⟩ := h
  unfold listD at hg
  split at hg
  · cases hg
    obtain ⟨a, ys, rfl, h1, r1⟩ := hx.lst
    exact call_list_of pins s σ H _ us Q I r ⟨a, ys, rfl, .inl (.of h1), fun l n => q _ _ (same_upd n) (Rep.newL hR n r1)⟩
  · cases hg
    obtain ⟨a, its1, ys, rfl, h1, s1, r1⟩ := hx.tup
    exact call_list_of pins s σ H _ us Q I r ⟨a, ys, rfl, .inr (sqF h1), fun l n => q _ _ (same_upd n) (Rep.newL hR n r1)⟩
  · cases hg
end
end EN

/-! == E3b == -/
set_option Elab.async false
set_option linter.all false
set_option maxRecDepth 100000
set_option maxHeartbeats 4000000
/-! E3b: sorted. -/
namespace EN
open PySem PySem.Spec PyProof.Rows L2 PySem.W PySem.Calls

section
variable {prog : Program} {w : World} {A : Around} {E : Value → Shared → Prop} {s : Shared}
theorem collect_tuple {l : Addr} {vs : List Value} {Q : List Value → Shared → Prop} (hl : s.heap.IsTuple l vs.toArray)
    (h : Q vs { s with heap := (s.heap.push (seqObj "list" #[] 0)).update s.heap.objs.size (Obj.mapSeq (· ++ vs.toArray)) }) (hsz : vs.length ≤ sizeLine) :
    wpAny (model prog w) A (collect (.ref l)) Q E s := by
  obtain ⟨o, ho, hc, n, hd⟩ := id hl
  unfold collect
  refine wpAny_bind (wpAny_runValue (codeAny_builtin entry_proto_collect' ?_))
  show wpAny _ _ (do again (.builtin "list.__iadd__" ⟨[← newList [], .ref l], []⟩)) _ _ s
  refine wpAny_bind (wpAny_newList (wpAny_pure ⟨Code.quiet_builtin _ (by decide +kernel), codeAny_builtin entry_list_iadd' ?_⟩))
  show wpAny _ _ (Builtin.List.listExtendWith (.ref s.heap.objs.size) (.ref l) (.ref s.heap.objs.size)) _ _ { s with heap := s.heap.push (seqObj "list" #[] 0) }
  unfold Builtin.List.listExtendWith
  have ho' : (s.heap.push (seqObj "list" #[] 0)).get? l = some o := Heap.get?_push_of_some _ ho
  refine wpAny_bind (wpAny_typeOf (T := "tuple") ⟨o, ho', hc⟩ ?_)
  have ht : (Value.type "tuple" == Value.type "tuple") = true := by rfl
  rw [if_pos (by rw [ht]; simp)]
  refine wpAny_bind (listItems_at ho' hd ?_)
  refine wpAny_bind (listItems_at (xs := #[]) (n := 0) (Heap.get?_push_size _ rfl) rfl ?_)
  rw [if_neg (by simp)]
  refine wpAny_bind (listUpdate_at (xs := #[]) (n := 0) (Heap.get?_push_size _ rfl) rfl ?_ (Nat.zero_le _) (by show (#[] ++ vs.toArray).size ≤ sizeLine + 1; simp only [Array.size_append, List.size_toArray, List.length_nil]; omega))
  refine wpAny_pure ?_
  show wpAny (model prog w) A (do
      let o ← load s.heap.objs.size
      match o.data with
      | .seq xs _ => pure xs.toList
      | _ => unsupported "internal:collect") Q E { s with heap := (s.heap.push (seqObj "list" #[] 0)).update s.heap.objs.size (Obj.mapSeq (· ++ vs.toArray)) }
  refine wpAny_bind (wpAny_load (get?_update_seq (Heap.get?_push_size _ rfl) _) ?_)
  show wpAny _ _ (pure ((#[] : Array Value) ++ vs.toArray).toList) Q E _
  rw [show ((#[] : Array Value) ++ vs.toArray).toList = vs by simp]
  exact wpAny_pure h
/-- sorted(t), t a tuple -/
theorem sorted_of_sortT {l : Addr} {vs : List Value} {Q : Value → Shared → Prop} (hl : s.heap.IsTuple l vs.toArray) (hL : vs.length ≤ sizeLine)
    (body : ∀ E' : Value → Shared → Prop, wpAny (model prog w) A.in1.in1 (Builtin.«list.sort» ⟨[.ref (s.heap.objs.size + 1)], []⟩) (fun f s' => f = .done (.ret .none) ∧ Q (.ref (s.heap.objs.size + 1)) s') E' { s with heap := copyHeap s.heap vs }) :
    wpAny (model prog w) A (call (.builtin "sorted") [.ref l]) Q E s := by
  refine call_function_entry_kw kind_sorted plain_sorted entry_sorted (args_sorted1 _) ?_
  unfold Builtin.«sorted»
  refine wpAny_bind (m := checkCount "sorted" 1 1 _) (wpAny_pure ?_)
  refine wpAny_bind (collect_tuple hl ?_ hL)
  refine wpAny_bind (wpAny_newList ?_ hL)
  have hsz : ((s.heap.push (seqObj "list" #[] 0)).update s.heap.objs.size (Obj.mapSeq (· ++ vs.toArray))).objs.size = s.heap.objs.size + 1 := by
    rw [Heap.size_update, size_push']
  show wpAny _ _ _ _ _ { s with heap := copyHeap s.heap vs }
  rw [hsz]
  refine wpAny_bind (wpAny_holding (wpAny_call_entry_kw slot_list_sort ⟨_, copyHeap_at s.heap vs, rfl⟩ entry_list_sort ?body (args_list_sort _)))
  case body =>
    show wpAny (model prog w) A.in1.in1 (Builtin.«list.sort» ⟨[.ref (s.heap.objs.size + 1)], []⟩) _ _ _
    refine wpAny_mono (body _) (fun f s' hf => ?_) fun _ _ e => e
    obtain ⟨rfl, hq⟩ := hf
    exact ⟨_, rfl, wpAny_pure ⟨_, rfl, hq⟩⟩
variable {β : Type} {vs : List Value} {bs : List β} {enc : β → PyData} {R : Value → β → Prop}
theorem sorted_dataT {l : Addr} {Q : Value → Shared → Prop} (hl : s.heap.IsTuple l vs.toArray) (e : EachIs R vs bs) (er : EachIs (fun v b => ∃ as, Reads s.heap v (enc b) as) vs bs) (hal : AllAlike (bs.map enc)) (hk : Sortable (bs.map enc)) (hL : bs.length ≤ sizeLine)
    (hu : ∀ b, b ∈ bs → A.units + 2 + (enc b).depth < cLine) (h : ∀ out, out.length = bs.length → EachIs R out (bs.mergeSort (dataLe false enc)) → Q (.ref (s.heap.objs.size + 1)) { s with heap := sortedAll s.heap vs (List.toArray out) }) :
    wpAny (model prog w) A (call (.builtin "sorted") [.ref l]) Q E s := by
  have er' : EachIs (fun v b => ∃ as, Reads (sortingHeap (copyHeap s.heap vs) (s.heap.objs.size + 1) vs) v (enc b) as) vs bs := er.mono fun _ _ ⟨as, r⟩ => ⟨as, PyProof.Rows.Reads.keeps (fun _ _ => sorting_copy_old) r⟩
  have hL' : vs.length ≤ sizeLine := by rw [e.length]; exact hL
  have S := SortsAt.data (prog := prog) (w := w) (A := A.in1.in1) (s := { s with heap := sortingHeap (copyHeap s.heap vs) (s.heap.objs.size + 1) vs }) (each_map (R := fun v d => ∃ as, Reads (sortingHeap (copyHeap s.heap vs) (s.heap.objs.size + 1) vs) v d as) enc er') hal hk (bound_map hu)
  exact sorted_of_sortT hl hL' fun _ => list_sort_vals (s := { s with heap := copyHeap s.heap vs }) (copyHeap_at s.heap vs) S hL' ⟨rfl, h _ (by rw [sortVals_length false rfl]; exact e.length) (sortVals_data false e er' hal)⟩
end

/-! ### on data -/
def alikeB (ds : List D) : Bool := ds.all fun d => ds.all fun d' => alike d d'
def sortableB (ds : List D) : Bool :=
  (ds.all fun (d : D) => match d with | .tuple (_ :: _) => true | _ => false) || (ds.all fun (d : D) => match d with | .none => false | .tuple _ => false | _ => true)
def shallowB (ds : List D) : Bool := ds.all fun d => decide (d.depth ≤ 50) && d.canLay0
theorem allAlike_of {ds : List D} (h : alikeB ds = true) : AllAlike ds := fun d hd d' hd' => List.all_eq_true.mp (List.all_eq_true.mp h d hd) d' hd'
theorem sortable_of {ds : List D} (h : sortableB ds = true) : Sortable ds := by
  unfold sortableB at h
  rcases Bool.or_eq_true_iff.mp h with h | h
  · refine .inl fun d hd => ?_
    have q := List.all_eq_true.mp h d hd
    match d, q with
    | .tuple (x :: r), _ => exact ⟨x, r, rfl⟩
  · refine .inr fun d hd => ?_
    have q := List.all_eq_true.mp h d hd
    match d, q with
    | .bool _, _ => exact ⟨nofun, fun _ => nofun⟩
    | .int _, _ => exact ⟨nofun, fun _ => nofun⟩
    | .str _, _ => exact ⟨nofun, fun _ => nofun⟩
    | .list _, _ => exact ⟨nofun, fun _ => nofun⟩
    | .dict _, _ => exact ⟨nofun, fun _ => nofun⟩
def sortL (ds : List D) : List D := ds.mergeSort (dataLe false id)
def sortedD : D → Option D
  | .list ds => if alikeB ds && sortableB ds && shallowB ds then some (.list (sortL ds)) else none
  | .tuple ds => if alikeB ds && sortableB ds && shallowB ds then some (.list (sortL ds)) else none
  | _ => none

section
variable {F : Fx} {X : Cx} {pins : List (Addr × Obj)} {s : Shared} {σ : L2.St} {H : Hp} {S : Sto} {Z : Addr → Prop}
/-- a value with its datum -/
def BothR (F : Fx) (H : Hp) (S : Sto) (Z : Addr → Prop) (u : Value) (d : D) : Prop := ∃ v, RelV v u ∧ Rep F H S Z v d
theorem both_of : ∀ {xs : List V} {us : List Value} {ds : List D}, Vals xs us → RepA F H S Z xs ds → EachIs (BothR F H S Z) us ds
  | _, _, _, .nil, .nil => .nil
  | _, _, _, .cons r t, .cons r' t' => .cons ⟨_, r, r'⟩ (both_of t t')
theorem of_both : ∀ {us : List Value} {ds : List D}, EachIs (BothR F H S Z) us ds → ∃ xs, Vals xs us ∧ RepA F H S Z xs ds
  | _, _, .nil => ⟨[], .nil, .nil⟩
  | _, _, .cons ⟨v, r, r'⟩ t => by
    obtain ⟨xs, h1, h2⟩ := of_both t
    exact ⟨v :: xs, .cons r h1, .cons r' h2⟩
theorem both_reads (I : Inv X pins σ H s) : ∀ {us : List Value} {ds : List D}, (∀ d ∈ ds, d.canLay0 = true) → EachIs (BothR F H S Z) us ds → EachIs (fun v b => ∃ as, Reads s.heap v (id b) as) us ds
  | _, _, _, .nil => .nil
  | _, _, c, .cons ⟨v, r, r'⟩ t => .cons (Dp.reads I _ _ _ (r'.dp (K := X.K) (c _ List.mem_cons_self)) r) (both_reads I (fun d hd => c d (List.mem_cons_of_mem _ hd)) t)
/-- a list that a built-in has made -/
theorem made_list {Q : VK} {h' : Heap} {g : Nat} {p : Addr} {xs : List V} {us : List Value} {c : Nat} (I : Inv X pins σ H s) (k : ∀ b o, s.heap.get? b = some o → h'.get? b = some o) (hp : s.heap.objs.size ≤ p) (ho : h'.get? p = some (seqObj "list" us.toArray c)) (r : Vals xs us) (hz : xs.length ≤ sizeLine)
    (q : H p = none → Q (.ref p) (upd H p (.lst xs))) : EP X pins σ Q (.ref p) { s with heap := h', toks := g } :=
  ⟨.ref p, _, I.laid (t' := g) (o := .lst xs) k hp ⟨hz, us, c, r, ho⟩, rfl, q (I.hok.fresh hp)⟩
theorem sorted_ok (c : CtxOk F X) : Call1 F X (.builtin "sorted") sortedD := by
  intro pins s σ H xs us Q I r h
  obtain ⟨S, Z, x, dx, d, rfl, hR, hx, hg, q⟩ := h
  have fin : ∀ {l : Addr} {ys : List V} {its : List Value} {ds : List D}, us = [.ref l] → Vals ys its → (s.heap.IsList l its.toArray ∨ s.heap.IsTuple l its.toArray) → ys.length ≤ sizeLine → RepA F H S Z ys ds → (alikeB ds && sortableB ds && shallowB ds) = true → (∀ v H', Same H H' → Rep F H' S Z v (.list (sortL ds)) → Q v H') →
      wpAny (model X.prog X.w) X.A (call (.builtin "sorted") us) (EP X pins σ Q) X.xe s := by
    intro l ys its ds eu rv hl hz r1 hb q
    subst eu
    simp only [Bool.and_eq_true] at hb
    obtain ⟨⟨b1, b2⟩, b3⟩ := hb
    have lay : ∀ d ∈ ds, d.canLay0 = true := fun d hd => by
      have := List.all_eq_true.mp b3 d hd
      rw [Bool.and_eq_true] at this
      exact this.2
    have dep : ∀ d ∈ ds, X.A.units + 2 + (id d : D).depth < cLine := fun d hd => by
      have := List.all_eq_true.mp b3 d hd
      rw [Bool.and_eq_true, decide_eq_true_eq] at this
      have h1 := c.units
      have h2 := this.1
      show _ + 2 + d.depth < _
      omega
    have eb := both_of rv r1
    have er := both_reads I lay eb
    have hlen : ds.length ≤ sizeLine := by rw [← r1.length]; exact hz
    have done : ∀ out : List Value, out.length = ds.length → EachIs (BothR F H S Z) out (ds.mergeSort (dataLe false id)) → EP X pins σ Q (.ref (s.heap.objs.size + 1)) { s with heap := sortedAll s.heap its out.toArray } := by
      intro out ho e
      obtain ⟨zs, h1, h2⟩ := of_both e
      obtain ⟨c', hc⟩ := sortedAll_at s.heap its out.toArray
      refine made_list (g := s.toks) I (fun b o e => sortedAll_old e) (Nat.le_succ _) hc h1 ?_ fun n => q _ _ (same_upd n) (Rep.newL hR n h2)
      rw [h1.length, ho]; exact hlen
    rcases hl with hl | hl
    · exact sorted_data (enc := id) hl eb er (by rw [List.map_id]; exact allAlike_of b1) (by rw [List.map_id]; exact sortable_of b2) hlen dep done
    · exact sorted_dataT (enc := id) hl eb er (by rw [List.map_id]; exact allAlike_of b1) (by rw [List.map_id]; exact sortable_of b2) hlen dep done
  unfold sortedD at hg
  split at hg
  · split at hg
    · cases hg
      obtain ⟨a, ys, rfl, h1, r1⟩ := hx.lst
      obtain ⟨its, rv, p, hz⟩ := I.list (a := a) (.of h1)
      exact fin (Vals.ref1 r) rv (.inl p.isList) hz r1 (by assumption) q
    · cases hg
  · split at hg
    · cases hg
      obtain ⟨a, its1, ys, rfl, h1, s1, r1⟩ := hx.tup
      obtain ⟨its, rv, p, hz⟩ := I.tuple (a := a) (sqF h1)
      exact fin (Vals.ref1 r) rv (.inr p) hz r1 (by assumption) q
    · cases hg
  · cases hg
end
end EN

/-! == E3c == -/
set_option Elab.async false
set_option linter.all false
set_option maxRecDepth 100000
set_option maxHeartbeats 4000000
/-! E3c: sorted(set(xs)). -/
namespace EN
open PySem PySem.Spec PyProof.Rows L2 PySem.W PySem.Calls

/-! ### strictly ascending lists -/
section
variable {α : Type} [DecidableEq α]
def insU (lt : α → α → Bool) (x : α) : List α → List α
  | [] => [x]
  | y :: r => if x = y then y :: r else if lt x y = true then x :: y :: r else y :: insU lt x r
def sortU (lt : α → α → Bool) : List α → List α
  | [] => []
  | x :: r => insU lt x (sortU lt r)
structure Lin (lt : α → α → Bool) : Prop where
  irr : ∀ x, lt x x = false
  trans : ∀ x y z, lt x y = true → lt y z = true → lt x z = true
  total : ∀ x y, x ≠ y → lt x y = true ∨ lt y x = true
theorem mem_insU {lt : α → α → Bool} {x z : α} : ∀ {l : List α}, z ∈ insU lt x l ↔ z = x ∨ z ∈ l
  | [] => by simp [insU]
  | y :: r => by
    unfold insU
    split
    · rename_i e
      subst e
      simp
    · split
      · simp
      · rw [List.mem_cons, mem_insU (l := r), List.mem_cons]
        constructor
        · rintro (h | h | h)
          · exact .inr (.inl h)
          · exact .inl h
          · exact .inr (.inr h)
        · rintro (h | h | h)
          · exact .inr (.inl h)
          · exact .inl h
          · exact .inr (.inr h)
theorem mem_sortU {lt : α → α → Bool} {z : α} : ∀ {l : List α}, z ∈ sortU lt l ↔ z ∈ l
  | [] => by simp [sortU]
  | x :: r => by
    unfold sortU
    rw [mem_insU, mem_sortU (l := r), List.mem_cons]
theorem insU_pw {lt : α → α → Bool} (L : Lin lt) (x : α) : ∀ {l : List α}, l.Pairwise (fun a b => lt a b = true) → (insU lt x l).Pairwise (fun a b => lt a b = true)
  | [], _ => by simp [insU]
  | y :: r, h => by
    obtain ⟨h1, h2⟩ := List.pairwise_cons.mp h
    unfold insU
    split
    · exact h
    · rename_i ne
      split
      · rename_i hl
        refine List.pairwise_cons.mpr ⟨fun z hz => ?_, h⟩
        rcases List.mem_cons.mp hz with e | hz
        · rw [e]; exact hl
        · exact L.trans _ _ _ hl (h1 z hz)
      · rename_i hl
        refine List.pairwise_cons.mpr ⟨fun z hz => ?_, insU_pw L x h2⟩
        rcases mem_insU.mp hz with e | hz
        · rw [e]
          rcases L.total x y ne with q | q
          · exact absurd q hl
          · exact q
        · exact h1 z hz
theorem sortU_pw {lt : α → α → Bool} (L : Lin lt) : ∀ (l : List α), (sortU lt l).Pairwise (fun a b => lt a b = true)
  | [] => by simp [sortU]
  | x :: r => insU_pw L x (sortU_pw L r)
theorem pw_unique {lt : α → α → Bool} (L : Lin lt) : ∀ {a b : List α}, a.Pairwise (fun a b => lt a b = true) → b.Pairwise (fun a b => lt a b = true) → (∀ x, x ∈ a ↔ x ∈ b) → a = b
  | [], [], _, _, _ => rfl
  | [], y :: b, _, _, h => absurd ((h y).mpr List.mem_cons_self) (by simp)
  | x :: a, [], _, _, h => absurd ((h x).mp List.mem_cons_self) (by simp)
  | x :: a, y :: b, ha, hb, h => by
    obtain ⟨a1, a2⟩ := List.pairwise_cons.mp ha
    obtain ⟨b1, b2⟩ := List.pairwise_cons.mp hb
    have asym : ∀ {u v : α}, lt u v = true → lt v u = true → False := fun p q => by
      have := L.trans _ _ _ p q
      rw [L.irr] at this; cases this
    have e : x = y := by
      rcases List.mem_cons.mp ((h x).mp List.mem_cons_self) with e | hx
      · exact e
      · rcases List.mem_cons.mp ((h y).mpr List.mem_cons_self) with e | hy
        · exact e.symm
        · exact (asym (a1 y hy) (b1 x hx)).elim
    subst e
    congr 1
    refine pw_unique L a2 b2 fun z => ⟨fun hz => ?_, fun hz => ?_⟩
    · rcases List.mem_cons.mp ((h z).mp (List.mem_cons_of_mem _ hz)) with e | q
      · subst e
        have := a1 z hz
        rw [L.irr] at this; cases this
      · exact q
    · rcases List.mem_cons.mp ((h z).mpr (List.mem_cons_of_mem _ hz)) with e | q
      · subst e
        have := b1 z hz
        rw [L.irr] at this; cases this
      · exact q
theorem sortU_unique {lt : α → α → Bool} (L : Lin lt) {a xs : List α} (ha : a.Pairwise (fun a b => lt a b = true)) (h : ∀ x, x ∈ a ↔ x ∈ xs) : a = sortU lt xs :=
  pw_unique L ha (sortU_pw L xs) fun x => by rw [h, mem_sortU]
end
def ltI (a b : Int) : Bool := decide (a < b)
def ltP (a b : Int × Int) : Bool := decide (a.1 < b.1 ∨ (a.1 = b.1 ∧ a.2 < b.2))
def ltB (a b : Bool) : Bool := !a && b
theorem lin_ltI : Lin ltI := ⟨fun x => by simp [ltI], fun x y z => by simp [ltI]; omega, fun x y => by simp [ltI]; omega⟩
theorem lin_ltP : Lin ltP := by
  refine ⟨fun x => by simp [ltP], fun x y z => by simp only [ltP, decide_eq_true_eq]; omega, fun x y ne => ?_⟩
  simp only [ltP, decide_eq_true_eq]
  by_cases h1 : x.1 = y.1
  · by_cases h2 : x.2 = y.2
    · exact absurd (Prod.ext h1 h2) ne
    · omega
  · omega
theorem lin_ltB : Lin ltB := ⟨fun x => by cases x <;> rfl, fun x y z => by cases x <;> cases y <;> cases z <;> simp [ltB], fun x y => by cases x <;> cases y <;> simp [ltB]⟩

/-! ### set(xs) -/
theorem nodup_len {α : Type} [DecidableEq α] : ∀ {l U : List α}, l.Nodup → (∀ x ∈ l, x ∈ U) → l.length ≤ U.length
  | [], _, _, _ => Nat.zero_le _
  | x :: l, U, h, hs => by
    obtain ⟨h1, h2⟩ := List.nodup_cons.mp h
    have ih := nodup_len (U := U.erase x) h2 fun y hy => (List.mem_erase_of_ne (fun (e : y = x) => h1 (by rw [← e]; exact hy))).mpr (hs y (List.mem_cons_of_mem _ hy))
    have hx := hs x List.mem_cons_self
    rw [List.length_erase_of_mem hx] at ih
    have := List.length_pos_of_mem hx
    rw [List.length_cons]
    omega
section
variable {P : Program} {w : World} {A : Around} {E : Value → Shared → Prop} {s : Shared}
/-- set.update's loop, the tuples of at most 62 kinds -/
theorem set_update_tups2 {I : Addr} {fp wr : List Addr} {G : Array GenState → Array GenState → Prop} {n : Nat} {Pv : Nat → Value → Prop} {St : Nat → Shared → Prop} {R : Result → Shared → Prop}
    (W : WalksS P w A.in1 I fp wr G n Pv St) (S : Addr) (hSf : S ∉ fp) (ks : List (Addr × List Int)) (hn : n = ks.length) (U : List (List Int)) (hU : ∀ p ∈ ks, p.2 ∈ U) (hfew : U.length + 1 < 64) (hval : ∀ i v, Pv i v → ∃ p, ks[i]? = some p ∧ v = .ref p.1)
    (h0 : Heap) (hk : ∀ p ∈ ks, IsT P w h0 p.2 p.1) (hS0 : h0.get? S = none) (hw0 : ∀ b ∈ wr, h0.get? b = none) (hu : A.in1.units < cLine) :
    ∀ (k i : Nat) (s : Shared), n - i = k → i ≤ n → St i s → (∀ b o, h0.get? b = some o → s.heap.get? b = some o) → (∃ L es ep t, SetTR P w s.heap S L es ep t ∧ Got ks i L) →
      (∀ s' L es ep t, Moved (S :: wr) G s s' → SetTR P w s'.heap S L es ep t → Got ks n L → (∀ b o, h0.get? b = some o → s'.heap.get? b = some o) → R (.ok (.ret .none)) s') →
      codeAny (model P w) A (.builtin "set.update.loop" ⟨[.ref S, .ref I], []⟩) R s := by
  have hSw : S ∉ wr := fun h => hSf (W.sub _ h)
  have hsub : ∀ b ∈ wr, b ∈ S :: wr := fun b hb => List.mem_cons_of_mem _ hb
  have keepM : ∀ {s s' : Shared}, Moved wr G s s' → (∀ b o, h0.get? b = some o → s.heap.get? b = some o) → ∀ b o, h0.get? b = some o → s'.heap.get? b = some o := fun hm hkp b o e =>
    hm.heap b o (fun hb => by rw [hw0 b hb] at e; cases e) (hkp b o e)
  have few : ∀ {i : Nat} {L : List (Addr × List Int)} {h : Heap} {es : Array (Int × Value)} {ep : Nat} {t : SetTable}, Got ks i L → SetTR P w h S L es ep t → L.length + 1 < 64 := fun {i L h es ep t} g R => by
    have q : (L.map (·.2)).length ≤ U.length := by
      refine nodup_len R.nd fun x hx => ?_
      obtain ⟨p, hp, rfl⟩ := List.mem_map.mp hx
      exact hU p (List.mem_of_mem_take (g.sub p hp))
    rw [List.length_map] at q
    omega
  intro k
  induction k with
  | zero =>
    intro i s hk' hi hst hkp ⟨L, es, ep, t, hS, g⟩ hR
    have hin : i = n := by omega
    subst hin
    refine codeAny_builtin F.entry_set_update_loop ?_
    rw [Around.under_plainId F.plain_set_update_loop _]
    show wpAny _ A.in1 (pyNext (.ref I) >>= _) _ _ s
    refine wpAny_bind (W.done s _ _ hst fun s' hm => ?_)
    show wpAny _ A.in1 (ret Value.none) _ _ s'
    have hkp' := keepM hm hkp
    have sub : ∀ p ∈ L, p ∈ ks := fun p hp => List.mem_of_mem_take (g.sub p hp)
    exact wpAny_pure (hR s' L es ep t (hm.mono hsub) (hS.keep (fun o e => hm.heap S o hSw e) fun p hp => isT_keep (hk p (sub p hp)) hkp') g hkp')
  | succ k ih =>
    intro i s hk' hi hst hkp ⟨L, es, ep, t, hS, g⟩ hR
    have hlt : i < n := by omega
    refine codeAny_builtin F.entry_set_update_loop ?_
    rw [Around.under_plainId F.plain_set_update_loop _]
    show wpAny _ A.in1 (pyNext (.ref I) >>= _) _ _ s
    refine wpAny_bind (W.item i s _ _ hlt hst fun v s' hP hst' hm => ?_)
    obtain ⟨p, hp, rfl⟩ := hval i v hP
    have hkp' := keepM hm hkp
    have sub : ∀ p ∈ L, p ∈ ks := fun p hp => List.mem_of_mem_take (g.sub p hp)
    have hS' : SetTR P w s'.heap S L es ep t := hS.keep (fun o e => hm.heap S o hSw e) fun q hq => isT_keep (hk q (sub q hq)) hkp'
    have hx : IsT P w s'.heap p.2 p.1 := isT_keep (hk p (List.mem_of_getElem? hp)) hkp'
    show wpAny _ A.in1 (holding [Value.ref p.1] (setAdd S (.ref p.1)) >>= _) _ _ s'
    refine wpAny_bind (wpAny_holding ?_)
    unfold setAdd
    refine wpAny_holding ?_
    refine wpAny_bind (wpAny_pyHash_tuple hu hx ?_)
    refine add_at (s := { s' with toks := s'.toks + (p.2.length + 1) }) hS' hx hu (few g hS') fun b h' L' es' ep' t' hsb hS2 c1 c2 => ?_
    have g' : Got ks (i + 1) L' := by
      rcases Classical.em (p.2 ∈ L.map (·.2)) with c | c
      · rw [c1 c]; exact g.same hp c
      · exact g.more hp (c2 c)
    have hkp2 : ∀ b o, h0.get? b = some o → h'.get? b = some o := fun b o e => (hsb.2 b (fun z => by rw [z, hS0] at e; cases e)).trans (hkp' b o e)
    refine wpAny_pure ⟨plainId_quiet F.plain_set_update_loop _, ih (i + 1) _ (by omega) hlt (W.frame _ s' _ _ hst' (Nat.le_add_right _ _) fun b hb o e => ?_) hkp2 ⟨L', es', ep', t', hS2, g'⟩ fun s'' L2 es2 ep2 t2 hm'' hS'' g'' hkp'' => ?_⟩
    · rw [hsb.2 b (fun h : b = S => hSf (by rw [← h]; exact hb))]; exact e
    · refine hR s'' L2 es2 ep2 t2 (Moved.trans W.gtrans ((hm.mono hsub).then_heap (Nat.le_add_right _ _) fun b o hb e => ?_) hm'') hS'' g'' hkp''
      rw [hsb.2 b (fun h : b = S => hb (by rw [h]; exact List.mem_cons_self))]; exact e
/-- set.update's loop, truth values -/
theorem set_update_bls {I : Addr} {fp wr : List Addr} {G : Array GenState → Array GenState → Prop} {n : Nat} {Pv : Nat → Value → Prop} {St : Nat → Shared → Prop} {R : Result → Shared → Prop}
    (W : WalksS P w A.in1 I fp wr G n Pv St) (S : Addr) (hSf : S ∉ fp) (ns : List Bool) (hn : n = ns.length) (hval : ∀ i v, Pv i v → ∃ k, ns[i]? = some k ∧ v = .bool k) :
    ∀ (k i : Nat) (s : Shared), n - i = k → i ≤ n → St i s → (∃ c, PpSet.SetB w s.heap S (fun j => decide (j ∈ ns.take i)) c) →
      (∀ s' c, Moved (S :: wr) G s s' → PpSet.SetB w s'.heap S (fun j => decide (j ∈ ns)) c → R (.ok (.ret .none)) s') →
      codeAny (model P w) A (.builtin "set.update.loop" ⟨[.ref S, .ref I], []⟩) R s := by
  have hSw : S ∉ wr := fun h => hSf (W.sub _ h)
  have hsub : ∀ b ∈ wr, b ∈ S :: wr := fun b hb => List.mem_cons_of_mem _ hb
  have few : ∀ {h : Heap} {f : Bool → Bool} {c : Nat}, PpSet.SetB w h S f c → c + 1 < scanBound := fun {h f c} R => by
    obtain ⟨o, es, ep, t, ho, hex, hd, g, nd, hm, hb, hf, hn, hr, hl⟩ := R
    have q : (es.toList.map PpSet.keyB).length ≤ [true, false].length := nodup_len nd fun x _ => by cases x <;> simp
    rw [List.length_map, Array.length_toList, hn] at q
    have : c ≤ 2 := q
    unfold scanBound
    omega
  intro k
  induction k with
  | zero =>
    intro i s hk' hi hst ⟨c, hS⟩ hR
    have hin : i = n := by omega
    subst hin
    refine codeAny_builtin F.entry_set_update_loop ?_
    rw [Around.under_plainId F.plain_set_update_loop _]
    show wpAny _ A.in1 (pyNext (.ref I) >>= _) _ _ s
    refine wpAny_bind (W.done s _ _ hst fun s' hm => ?_)
    show wpAny _ A.in1 (ret Value.none) _ _ s'
    have e : ns.take i = ns := List.take_of_length_le (by omega)
    rw [e] at hS
    exact wpAny_pure (hR s' c (hm.mono hsub) (hS.at fun o e => hm.heap S o hSw e))
  | succ k ih =>
    intro i s hk' hi hst ⟨c, hS⟩ hR
    have hlt : i < n := by omega
    refine codeAny_builtin F.entry_set_update_loop ?_
    rw [Around.under_plainId F.plain_set_update_loop _]
    show wpAny _ A.in1 (pyNext (.ref I) >>= _) _ _ s
    refine wpAny_bind (W.item i s _ _ hlt hst fun v s' hP hst' hm => ?_)
    obtain ⟨z, hz, rfl⟩ := hval i v hP
    have hS' : PpSet.SetB w s'.heap S (fun j => decide (j ∈ ns.take i)) c := hS.at fun o e => hm.heap S o hSw e
    show wpAny _ A.in1 (holding [Value.bool z] (setAdd S (.bool z)) >>= _) _ _ s'
    refine wpAny_bind (wpAny_holding ?_)
    unfold setAdd
    refine wpAny_holding ?_
    refine wpAny_bind (PpSet.pyHash_bool ?_)
    refine PpSet.setB_add_hashed (s := { s' with toks := s'.toks + 1 }) hS' (few hS') fun h' hsb hS2 => ?_
    have hS3 : PpSet.SetB w h' S (fun j => decide (j ∈ ns.take (i + 1))) (if decide (z ∈ ns.take i) = true then c else c + 1) := hS2.congr fun j => by
      rw [List.take_add_one, hz]
      simp [List.mem_append]
    refine wpAny_pure ⟨plainId_quiet F.plain_set_update_loop _, ih (i + 1) _ (by omega) hlt (W.frame _ s' _ _ hst' (Nat.le_succ _) fun b hb o e => ?_) ⟨_, hS3⟩ fun s'' c2 hm'' hS'' => ?_⟩
    · rw [hsb.2 b (fun h : b = S => hSf (by rw [← h]; exact hb))]; exact e
    · refine hR s'' c2 (Moved.trans W.gtrans ((hm.mono hsub).then_heap (Nat.le_succ _) fun b o hb e => ?_) hm'') hS''
      rw [hsb.2 b (fun h : b = S => hb (by rw [h]; exact List.mem_cons_self))]; exact e

/-- what the loop makes of a fresh set at S -/
def LoopMakes (P : Program) (w : World) (A : Around) (h0 : Heap) (S : Addr) (items : Array Value) (Good : Heap → Prop) : Prop :=
  ∀ (R : Result → Shared → Prop) (I : Addr) (fp wr : List Addr) (St : Nat → Shared → Prop) (s1 : Shared), WalksS P w A.in1 I fp wr (fun a b => b = a) items.size (fun i v => items[i]? = some v) St → St 0 s1 → S ∉ fp → (∀ b ∈ wr, h0.get? b = none) →
    s1.heap.get? S = some { cls := .type "set", dict := none, data := .set #[] 0 (.fresh 0 0 (!w.params.followText "set-order")) } → (∀ b o, h0.get? b = some o → s1.heap.get? b = some o) →
    (∀ s', Moved (S :: wr) (fun a b => b = a) s1 s' → Good s'.heap → R (.ok (.ret .none)) s') → codeAny (model P w) A (.builtin "set.update.loop" ⟨[.ref S, .ref I], []⟩) R s1
set_option maxHeartbeats 6400000 in
/-- set(v) is set.__init__ on a fresh set -/
theorem call_set_pre {l : Addr} {Good : Heap → Prop} {Q : Value → Shared → Prop}
    (init : ∀ R : PySem.Fin → Shared → Prop, ∀ E' : Value → Shared → Prop, (∀ (h' : Heap) (tk : Nat), Good h' → (∀ b o, s.heap.get? b = some o → h'.get? b = some o) → R (.done (.ret .none)) { s with heap := h', toks := tk }) →
      wpAny (model P w) A.in1.in1 (Builtin.«set.__init__» ⟨[.ref s.heap.objs.size, .ref l], []⟩) R E' { s with heap := s.heap.push { cls := .type "set", dict := none, data := .set #[] 0 (.fresh 0 0 (!w.params.followText "set-order")) } })
    (h : ∀ (h' : Heap) (tk : Nat), Good h' → (∀ b o, s.heap.get? b = some o → h'.get? b = some o) → Q (.ref s.heap.objs.size) { s with heap := h', toks := tk }) :
    wpAny (model P w) A (call (.type "set") [.ref l]) Q E s := by
  obtain ⟨c, tl, hmro⟩ := F.called_set.mro
  have hmade := F.called_set.made
  have hsub := F.called_set.sub
  refine wpAny_call (codeAny_of_tree ?_)
  show wpAny _ _ (callAny (.type "set") _) _ _ _
  refine wpAny_pure ⟨Code.quiet_builtin _ (by decide +kernel), codeAny_builtin F.entry_type_call ?_⟩
  rw [Around.under_plain (weight_type_call_type "set" [.ref l] []) rfl]
  have h1 := F.called_set.notType
  have h2 := F.called_set.canCreate
  have hct := F.typeCall_set_1 (.ref l)
  repeat (any_goals (first | assumption | wp_step))
  refine codeAny_mono (code_set_led1 (.ref l) (E := E) (Q₁ := fun obj s₁ => obj = .ref s.heap.objs.size ∧ s₁ = { s with heap := s.heap.push { cls := .type "set", dict := none, data := .set #[] 0 (.fresh 0 0 (!w.params.followText "set-order")) } }) ⟨rfl, rfl⟩) fun r s₁ hr => ?_
  cases r with
  | error e => exact hr
  | ok fl =>
    cases fl with
    | ret obj =>
      obtain ⟨rfl, rfl⟩ := hr
      have hS : (s.heap.push { cls := .type "set", dict := none, data := .set #[] 0 (.fresh 0 0 (!w.params.followText "set-order")) }).get? s.heap.objs.size = some { cls := .type "set", dict := none, data := .set #[] 0 (.fresh 0 0 (!w.params.followText "set-order")) } := Heap.get?_push_size _ rfl
      have hT : Shared.TypeIs { s with heap := s.heap.push { cls := .type "set", dict := none, data := .set #[] 0 (.fresh 0 0 (!w.params.followText "set-order")) } } (.ref s.heap.objs.size) "set" := ⟨_, hS, rfl⟩
      have hli := F.called_set.init.lookup
      have hbi := F.called_set.init.bind (.ref s.heap.objs.size)
      repeat (any_goals (first | assumption | wp_step))
      refine codeAny_mono (codeAny_call_builtin (R := wants (fun r s₂ => r = .none ∧ ∃ h' tk, s₂ = { s with heap := h', toks := tk } ∧ Good h' ∧
          (∀ b o, s.heap.get? b = some o → h'.get? b = some o)) E) F.called_set.init.plain F.entry_set_init (check_set_init_1 hT (init _ _ ?_))) fun r₂ s₂ hr₂ => ?_
      · intro h' tk hg hk
        exact ⟨rfl, h', tk, rfl, hg, hk⟩
      · cases r₂ with
        | error e => exact hr₂
        | ok fl₂ =>
          cases fl₂ with
          | ret r =>
            obtain ⟨rfl, h', tk, rfl, hS', hk'⟩ := hr₂
            repeat (any_goals (first | assumption | wp_step))
            exact h _ _ hS' hk'
          | _ => exact hr₂.elim
    | _ => exact hr.elim
set_option maxHeartbeats 6400000 in
theorem call_setL {l : Addr} {items : Array Value} {Good : Heap → Prop} {Q : Value → Shared → Prop} (hh : A.handled = none) (hl : s.heap.IsList l items) (loop : LoopMakes P w A.in1.in1 s.heap s.heap.objs.size items Good)
    (h : ∀ (h' : Heap) (tk : Nat), Good h' → (∀ b o, s.heap.get? b = some o → h'.get? b = some o) → Q (.ref s.heap.objs.size) { s with heap := h', toks := tk }) :
    wpAny (model P w) A (call (.type "set") [.ref l]) Q E s := by
  refine call_set_pre (fun R E' hR => ?_) h
  have hS : (s.heap.push { cls := .type "set", dict := none, data := .set #[] 0 (.fresh 0 0 (!w.params.followText "set-order")) }).get? s.heap.objs.size = some { cls := .type "set", dict := none, data := .set #[] 0 (.fresh 0 0 (!w.params.followText "set-order")) } := Heap.get?_push_size _ rfl
  have hT : Shared.TypeIs { s with heap := s.heap.push { cls := .type "set", dict := none, data := .set #[] 0 (.fresh 0 0 (!w.params.followText "set-order")) } } (.ref s.heap.objs.size) "set" := ⟨_, hS, rfl⟩
  obtain ⟨ol, hol, hcl, nl, hdl⟩ := hl
  obtain ⟨ocls, odict, odata, oslots⟩ := ol
  simp only at hcl hdl
  subst hcl; subst hdl
  have hol' : (s.heap.push { cls := .type "set", dict := none, data := .set #[] 0 (.fresh 0 0 (!w.params.followText "set-order")) }).get? l = some { cls := .type "list", dict := odict, data := .seq items nl, slots := oslots } := Heap.get?_push_of_some _ hol
  have hsls := F.sub_list_set
  have hslf := F.sub_list_frozenset
  have hne : (Value.type "list" == Value.type "dict") = false := by decide
  have hl1 : (s.heap.push { cls := .type "set", dict := none, data := .set #[] 0 (.fresh 0 0 (!w.params.followText "set-order")) }).IsList l items := ⟨_, hol', rfl, nl, rfl⟩
  unfold Builtin.«set.__init__» noKeywords Builtin.Frozenset.updateFrom
  generalize hPI : pyIter = PI
  wp_walk
  subst hPI
  refine wpAny_pyIter_list hl1 ?_
  refine wpAny_bind (wpAny_runValue ?_)
  have hlS : l < s.heap.objs.size := Heap.lt_size hol
  have hh3 : A.in1.in1.in1.handled = none := by simp [hh]
  have hneI : l ≠ (s.heap.push { cls := .type "set", dict := none, data := .set #[] 0 (.fresh 0 0 (!w.params.followText "set-order")) }).objs.size := by
    rw [Heap.size_push]; exact Nat.ne_of_lt (Nat.lt_succ_of_lt hlS)
  have hSf : s.heap.objs.size ∉ [(s.heap.push { cls := .type "set", dict := none, data := .set #[] 0 (.fresh 0 0 (!w.params.followText "set-order")) }).objs.size, l] := by
    rw [Heap.size_push]; simp only [List.mem_cons, List.mem_singleton, List.not_mem_nil, or_false, not_or]
    exact ⟨Nat.ne_of_lt (Nat.lt_succ_self _), Nat.ne_of_gt hlS⟩
  have none_of : ∀ b, s.heap.objs.size ≤ b → s.heap.get? b = none := fun b hb => by
    cases q : s.heap.get? b with
    | none => rfl
    | some o => exact absurd (Nat.lt_of_lt_of_le (Heap.lt_size q) hb) (Nat.lt_irrefl _)
  refine loop _ _ _ _ _ _ ((Walks.list hh3 _ l hneI items).toS) ⟨⟨_, Heap.get?_push_size _ rfl, rfl, rfl⟩, (hl1.push _)⟩ hSf (fun b hb => none_of b (by
      rw [List.mem_singleton.mp hb, Heap.size_push]
      exact Nat.le_succ _)) (Heap.get?_push_of_some _ hS) (fun b o e => Heap.get?_push_of_some _ (Heap.get?_push_of_some _ e)) fun s' hm hS' => ?_
  obtain ⟨h', g2, d', tk', os'⟩ := s'
  have eg : g2 = s.gens := hm.gens
  have ed : d' = s.drawn := hm.drawn
  have eo : os' = s.os := hm.os
  subst eg; subst ed; subst eo
  show wpAny _ _ _ _ _ _
  refine wpAny_pure ?_
  show wpAny _ _ (ret Value.none) _ _ _
  refine wpAny_pure (hR h' tk' hS' fun b o e => ?_)
  have hb := Heap.lt_size e
  have hb1 : b ≠ s.heap.objs.size := Nat.ne_of_lt hb
  have hb2 : b ≠ (s.heap.push { cls := .type "set", dict := none, data := .set #[] 0 (.fresh 0 0 (!w.params.followText "set-order")) }).objs.size := by
    rw [Heap.size_push]; exact Nat.ne_of_lt (Nat.lt_succ_of_lt hb)
  exact hm.heap b o (by simp only [List.mem_cons, List.mem_singleton, List.not_mem_nil, or_false, not_or]; exact ⟨hb1, hb2⟩) (Heap.get?_push_of_some _ (Heap.get?_push_of_some _ e))
set_option maxHeartbeats 6400000 in
theorem call_setT {l : Addr} {items : Array Value} {Good : Heap → Prop} {Q : Value → Shared → Prop} (hh : A.handled = none) (hl : s.heap.IsTuple l items) (loop : LoopMakes P w A.in1.in1 s.heap s.heap.objs.size items Good)
    (h : ∀ (h' : Heap) (tk : Nat), Good h' → (∀ b o, s.heap.get? b = some o → h'.get? b = some o) → Q (.ref s.heap.objs.size) { s with heap := h', toks := tk }) :
    wpAny (model P w) A (call (.type "set") [.ref l]) Q E s := by
  refine call_set_pre (fun R E' hR => ?_) h
  have hS : (s.heap.push { cls := .type "set", dict := none, data := .set #[] 0 (.fresh 0 0 (!w.params.followText "set-order")) }).get? s.heap.objs.size = some { cls := .type "set", dict := none, data := .set #[] 0 (.fresh 0 0 (!w.params.followText "set-order")) } := Heap.get?_push_size _ rfl
  have hT : Shared.TypeIs { s with heap := s.heap.push { cls := .type "set", dict := none, data := .set #[] 0 (.fresh 0 0 (!w.params.followText "set-order")) } } (.ref s.heap.objs.size) "set" := ⟨_, hS, rfl⟩
  obtain ⟨ol, hol, hcl, nl, hdl⟩ := hl
  obtain ⟨ocls, odict, odata, oslots⟩ := ol
  simp only at hcl hdl
  subst hcl; subst hdl
  have hol' : (s.heap.push { cls := .type "set", dict := none, data := .set #[] 0 (.fresh 0 0 (!w.params.followText "set-order")) }).get? l = some { cls := .type "tuple", dict := odict, data := .seq items nl, slots := oslots } := Heap.get?_push_of_some _ hol
  have hsls := F.sub_tuple_set
  have hslf := F.sub_tuple_frozenset
  have hne : (Value.type "tuple" == Value.type "dict") = false := by decide
  have hl1 : (s.heap.push { cls := .type "set", dict := none, data := .set #[] 0 (.fresh 0 0 (!w.params.followText "set-order")) }).IsTuple l items := ⟨_, hol', rfl, nl, rfl⟩
  unfold Builtin.«set.__init__» noKeywords Builtin.Frozenset.updateFrom
  generalize hPI : pyIter = PI
  wp_walk
  subst hPI
  refine wpAny_pyIter_tuple hl1 ?_
  refine wpAny_bind (wpAny_runValue ?_)
  have hlS : l < s.heap.objs.size := Heap.lt_size hol
  have hh3 : A.in1.in1.in1.handled = none := by simp [hh]
  have hneI : l ≠ (s.heap.push { cls := .type "set", dict := none, data := .set #[] 0 (.fresh 0 0 (!w.params.followText "set-order")) }).objs.size := by
    rw [Heap.size_push]; exact Nat.ne_of_lt (Nat.lt_succ_of_lt hlS)
  have hSf : s.heap.objs.size ∉ [(s.heap.push { cls := .type "set", dict := none, data := .set #[] 0 (.fresh 0 0 (!w.params.followText "set-order")) }).objs.size, l] := by
    rw [Heap.size_push]; simp only [List.mem_cons, List.mem_singleton, List.not_mem_nil, or_false, not_or]
    exact ⟨Nat.ne_of_lt (Nat.lt_succ_self _), Nat.ne_of_gt hlS⟩
  have none_of : ∀ b, s.heap.objs.size ≤ b → s.heap.get? b = none := fun b hb => by
    cases q : s.heap.get? b with
    | none => rfl
    | some o => exact absurd (Nat.lt_of_lt_of_le (Heap.lt_size q) hb) (Nat.lt_irrefl _)
  refine loop _ _ _ _ _ _ ((Walks.tuple hh3 _ l hneI items).toS) ⟨⟨_, Heap.get?_push_size _ rfl, rfl, rfl⟩, (hl1.push _)⟩ hSf (fun b hb => none_of b (by
      rw [List.mem_singleton.mp hb, Heap.size_push]
      exact Nat.le_succ _)) (Heap.get?_push_of_some _ hS) (fun b o e => Heap.get?_push_of_some _ (Heap.get?_push_of_some _ e)) fun s' hm hS' => ?_
  obtain ⟨h', g2, d', tk', os'⟩ := s'
  have eg : g2 = s.gens := hm.gens
  have ed : d' = s.drawn := hm.drawn
  have eo : os' = s.os := hm.os
  subst eg; subst ed; subst eo
  show wpAny _ _ _ _ _ _
  refine wpAny_pure ?_
  show wpAny _ _ (ret Value.none) _ _ _
  refine wpAny_pure (hR h' tk' hS' fun b o e => ?_)
  have hb := Heap.lt_size e
  have hb1 : b ≠ s.heap.objs.size := Nat.ne_of_lt hb
  have hb2 : b ≠ (s.heap.push { cls := .type "set", dict := none, data := .set #[] 0 (.fresh 0 0 (!w.params.followText "set-order")) }).objs.size := by
    rw [Heap.size_push]; exact Nat.ne_of_lt (Nat.lt_succ_of_lt hb)
  exact hm.heap b o (by simp only [List.mem_cons, List.mem_singleton, List.not_mem_nil, or_false, not_or]; exact ⟨hb1, hb2⟩) (Heap.get?_push_of_some _ (Heap.get?_push_of_some _ e))
end
end EN

/-! == E3d == -/
set_option Elab.async false
set_option linter.all false
set_option maxRecDepth 100000
set_option maxHeartbeats 4000000
/-! E3d: sorted(set(xs)) on data. -/
namespace EN
open PySem PySem.Spec PyProof.Rows L2 PySem.W PySem.Calls

section
variable {P : Program} {w : World} {A : Around} {E : Value → Shared → Prop} {s : Shared}
theorem bls_nodup : ∀ {l : List Bool}, l.Nodup → l = [] ∨ l = [true] ∨ l = [false] ∨ l = [true, false] ∨ l = [false, true]
  | [], _ => .inl rfl
  | [true], _ => .inr (.inl rfl)
  | [false], _ => .inr (.inr (.inl rfl))
  | [true, false], _ => .inr (.inr (.inr (.inl rfl)))
  | [false, true], _ => .inr (.inr (.inr (.inr rfl)))
  | [true, true], h => absurd h (by decide)
  | [false, false], h => absurd h (by decide)
  | a :: b :: c :: r, h => by
    have q := nodup_len (U := [true, false]) h fun x _ => by cases x <;> simp
    simp at q
theorem each_bls (h : Heap) : ∀ bs : List Bool, EachIs (fun v b => ∃ as, Reads h v (PyData.bool b) as) (bs.map Value.bool) bs
  | [] => .nil
  | b :: bs => .cons ⟨_, .bool b⟩ (each_bls h bs)
theorem each_bls2 : ∀ bs : List Bool, EachIs (fun v b => v = Value.bool b) (bs.map Value.bool) bs
  | [] => .nil
  | b :: bs => .cons rfl (each_bls2 bs)
theorem of_each2 : ∀ {us : List Value} {bs : List Bool}, EachIs (fun v b => v = Value.bool b) us bs → us = bs.map Value.bool
  | _, _, .nil => rfl
  | _, _, .cons h t => by rw [h, of_each2 t]; rfl
theorem sort_bls {l : List Bool} (h : l.Nodup) : (l.mergeSort (dataLe false fun b => PyData.bool b)).Pairwise (fun a b => ltB a b = true) ∧ ∀ k, k ∈ l.mergeSort (dataLe false fun b => PyData.bool b) ↔ k ∈ l := by
  refine ⟨?_, fun k => List.mem_mergeSort⟩
  have e : ∀ a b : Bool, dataLe false (fun b => PyData.bool b) a b = (!a || b) := by decide +kernel
  have q := List.pairwise_mergeSort (le := dataLe false fun b => PyData.bool b) (fun a b c h1 h2 => by rw [e] at *; cases a <;> cases b <;> cases c <;> simp_all) (fun a b => by rw [e, e]; cases a <;> cases b <;> rfl) l
  have nd : (l.mergeSort (dataLe false fun b => PyData.bool b)).Nodup := (List.mergeSort_perm l _).nodup_iff.mpr h
  rcases bls_nodup nd with h | h | h | h | h <;> rw [h] at q ⊢ <;> simp [e, ltB] at q ⊢
theorem sorted_setB {a : Addr} {S : Bool → Bool} {n : Nat} {Q : Value → Shared → Prop} (R : PpSet.SetB w s.heap a S n) (hh : A.handled = none) (hu : A.units + 10 < cLine)
    (hQ : ∀ s' p (out : Array Value) (c : Nat) (bs : List Bool), (∀ b o, s.heap.get? b = some o → s'.heap.get? b = some o) → s'.gens = s.gens → s'.os = s.os → s.heap.objs.size ≤ p →
      s'.heap.get? p = some (seqObj "list" out c) → out.toList = bs.map Value.bool → bs.Pairwise (fun a b => ltB a b = true) → (∀ k, k ∈ bs ↔ S k = true) → Q (.ref p) s') :
    wpAny (model P w) A (call (.builtin "sorted") [.ref a]) Q E s := by
  obtain ⟨o, es, ep, t, ho, hex, hd, g, nd, hm, hb, hf, hn, hr, hl⟩ := R
  refine Calls.call_function_entry kind_sorted plain_sorted entry_sorted (args_sorted1 _) ?_
  unfold Builtin.«sorted»
  refine wpAny_bind (m := checkCount "sorted" 1 1 _) (wpAny_pure ?_)
  refine wpAny_bind (collect_set (A := A.in1) hh ⟨o, ho, hex.1, hd⟩ hf hb hr hl fun s1 vs k1 hz g1 o1 pm => ?_)
  have hkey : ∀ v ∈ vs, ∃ k, v = Value.bool k := fun v hv => by
    obtain ⟨e, he, q⟩ := List.mem_map.mp (pm.mem_iff.mp hv)
    obtain ⟨k, h1, _⟩ := g e he
    exact ⟨k, by rw [← q]; exact h1⟩
  have hex2 : ∃ bs : List Bool, vs = bs.map Value.bool := by
    clear pm
    induction vs with
    | nil => exact ⟨[], rfl⟩
    | cons v vs ih =>
      obtain ⟨k, rfl⟩ := hkey v List.mem_cons_self
      obtain ⟨bs, e⟩ := ih fun u hu => hkey u (List.mem_cons_of_mem _ hu)
      exact ⟨k :: bs, by rw [e]; rfl⟩
  obtain ⟨bs, rfl⟩ := hex2
  have pb : bs.Perm (es.toList.map PpSet.keyB) := by
    have q := pm.map (fun v => match v with | .bool k => k | _ => false)
    rw [List.map_map, List.map_map] at q
    have e1 : bs.map ((fun v => match v with | .bool k => k | _ => false) ∘ Value.bool) = bs := by
      rw [show ((fun v => match v with | .bool k => k | _ => false) ∘ Value.bool) = id from rfl, List.map_id]
    rw [e1] at q
    exact q
  have nb : bs.Nodup := pb.nodup_iff.mpr nd
  have hbl : (bs.map Value.bool).length ≤ sizeLine := by
    have q := nodup_len (U := [true, false]) nb fun x _ => by cases x <;> simp
    rw [List.length_map, sizeLine_eq]
    simp at q
    omega
  refine wpAny_bind (wpAny_newList ?_ hbl)
  have hoL : (s1.heap.push (seqObj "list" (bs.map Value.bool).toArray 0)).get? s1.heap.objs.size = some (seqObj "list" (bs.map Value.bool).toArray 0) := Heap.get?_push_size _ rfl
  have SA : SortsAt P w A.in1.in1 { { s1 with heap := s1.heap.push (seqObj "list" (bs.map Value.bool).toArray 0) } with heap := sortingHeap (s1.heap.push (seqObj "list" (bs.map Value.bool).toArray 0)) s1.heap.objs.size (bs.map Value.bool) }
      (dataKind (sortingHeap (s1.heap.push (seqObj "list" (bs.map Value.bool).toArray 0)) s1.heap.objs.size (bs.map Value.bool)) (bs.map PyData.bool)) (bs.map Value.bool) := by
    refine SortsAt.data (s := { s1 with heap := sortingHeap (s1.heap.push (seqObj "list" (bs.map Value.bool).toArray 0)) s1.heap.objs.size (bs.map Value.bool) }) (ds := bs.map PyData.bool) (each_map (R := fun v d => ∃ as, Reads _ v d as) PyData.bool (each_bls _ bs)) (AllAlike.of fun _ _ => rfl) (Sortable.others fun b => ⟨nofun, fun _ => nofun⟩) fun d hd => ?_
    obtain ⟨b, _, rfl⟩ := List.mem_map.mp hd
    show A.in1.in1.units + PyData.depth (.bool b) < cLine
    have : PyData.depth (.bool b) = 0 := by simp [PyData.depth]
    rw [this]
    show A.units + 1 + 1 + 0 < cLine
    omega
  refine wpAny_bind (wpAny_holding (wpAny_call_entry_kw slot_list_sort ⟨_, hoL, rfl⟩ entry_list_sort (wpAny_mono (list_sort_vals (s := { s1 with heap := s1.heap.push (seqObj "list" (bs.map Value.bool).toArray 0) }) (P := fun f s' => f = .done (.ret .none) ∧ s' = { s1 with heap := sortedHeap (s1.heap.push (seqObj "list" (bs.map Value.bool).toArray 0)) s1.heap.objs.size (bs.map Value.bool) _ }) hoL SA hbl ⟨rfl, rfl⟩) (fun f s' hf => ?_) fun _ _ e => e) (args_list_sort _)))
  obtain ⟨rfl, rfl⟩ := hf
  refine ⟨_, rfl, wpAny_pure ⟨_, rfl, ?_⟩⟩
  have eout := sortVals_data (h' := sortingHeap (s1.heap.push (seqObj "list" (bs.map Value.bool).toArray 0)) s1.heap.objs.size (bs.map Value.bool)) (R := fun v b => v = Value.bool b) (enc := PyData.bool) false (each_bls2 bs) (each_bls _ bs) (AllAlike.of fun _ _ => rfl)
  generalize hov : (sortVals _ false (bs.map Value.bool) (bs.map Value.bool)).toArray = out
  have eo : out.toList = (bs.mergeSort (dataLe false fun b => PyData.bool b)).map Value.bool := by
    rw [← hov]
    exact of_each2 eout
  obtain ⟨c, hc⟩ := sortedHeap_at (vs := bs.map Value.bool) (out := out) hoL
  obtain ⟨q1, q2⟩ := sort_bls nb
  refine hQ _ s1.heap.objs.size out c _ (fun b u e => ?_) g1 o1 hz hc eo q1 fun k => by rw [q2, pb.mem_iff, ← hm k]
  have q := k1 b u e
  have hlt := Heap.lt_size q
  show (sortedHeap (s1.heap.push (seqObj "list" (bs.map Value.bool).toArray 0)) s1.heap.objs.size (bs.map Value.bool) out).get? b = some u
  rw [sortedHeap_old (Nat.ne_of_lt hlt) (by rw [size_push']; exact Nat.lt_succ_of_lt hlt)]
  exact Heap.get?_push_of_some _ q
end

def pairD (p : Int × Int) : D := .tuple [.int p.1, .int p.2]
def asPair : D → Option (Int × Int)
  | .tuple [.int i, .int j] => some (i, j)
  | _ => none
def asPairs (ds : List D) : Option (List (Int × Int)) := ds.mapM asPair
theorem asPair_eq {d : D} {p : Int × Int} (h : asPair d = some p) : d = pairD p := by
  unfold asPair at h
  split at h
  · cases h; rfl
  · cases h
theorem asPairs_eq : ∀ {ds : List D} {ps : List (Int × Int)}, asPairs ds = some ps → ds = ps.map pairD
  | [], ps, h => by
    simp [asPairs] at h; subst h; rfl
  | d :: a, ps, h => by
    unfold asPairs at h
    rw [List.mapM_cons] at h
    cases e1 : asPair d with
    | none => rw [e1] at h; simp at h
    | some p =>
      rw [e1] at h
      simp only [Option.bind_eq_bind, Option.bind_some] at h
      cases e : asPairs a with
      | none => unfold asPairs at e; rw [e] at h; cases h
      | some ms =>
        unfold asPairs at e
        rw [e] at h
        cases h
        rw [asPairs_eq (ds := a) e, asPair_eq e1]; rfl
theorem asPairs_map : ∀ (ps : List (Int × Int)), asPairs (ps.map pairD) = some ps
  | [] => rfl
  | p :: ps => by
    have ih := asPairs_map ps
    unfold asPairs at ih ⊢
    rw [List.map_cons, List.mapM_cons, ih]; rfl
def inBd (ps : List (Int × Int)) : Bool := ps.all fun p => decide (0 ≤ p.1 ∧ p.1 < 64 ∧ 0 ≤ p.2 ∧ p.2 < 64)
def ssetL (ds : List D) : Option D :=
  match asPairs ds with
  | some ps => if inBd ps && decide ((sortU ltP ps).length ≤ 62) then some (.list ((sortU ltP ps).map pairD)) else none
  | none => match asInts ds with
    | some ns => if ns.length ≤ 60 then some (.list ((sortU ltI ns).map .int)) else none
    | none => match asBls ds with
      | some bs => some (.list ((sortU ltB bs).map .bool))
      | none => none
def ssetD : D → Option D
  | .list ds => ssetL ds
  | .tuple ds => ssetL ds
  | _ => none

section
variable {F : Fx} {X : Cx}
/-- a list, a tuple that stands -/
theorem seq_raw {pins : List (Addr × Obj)} {s : Shared} {σ : L2.St} {H : Hp} {S : Sto} {Z : Addr → Prop} {x : V} {d : D} (I : Inv X pins σ H s) (hx : RepT F H S Z x d) {ds : List D} (hd : d = .list ds ∨ d = .tuple ds) :
    ∃ l ys its, x = .ref l ∧ Vals ys its ∧ (s.heap.IsList l its.toArray ∨ s.heap.IsTuple l its.toArray) ∧ RepA F H S Z ys ds ∧ ys.length ≤ sizeLine := by
  rcases hd with rfl | rfl
  · obtain ⟨a, ys, rfl, h1, r1⟩ := hx.lst
    obtain ⟨its, rv, p, hz⟩ := I.list (a := a) (.of h1)
    exact ⟨a, ys, its, rfl, rv, .inl p.isList, r1, hz⟩
  · obtain ⟨a, its1, ys, rfl, h1, s1, r1⟩ := hx.tup
    obtain ⟨its, rv, p, hz⟩ := I.tuple (a := a) (sqF h1)
    exact ⟨a, ys, its, rfl, rv, .inr p, r1, hz⟩
theorem call_set_any {P : Program} {w : World} {A : Around} {E : Value → Shared → Prop} {s : Shared} {l : Addr} {items : Array Value} {Good : Heap → Prop} {Q : Value → Shared → Prop} (hh : A.handled = none) (hl : s.heap.IsList l items ∨ s.heap.IsTuple l items) (loop : LoopMakes P w A.in1.in1 s.heap s.heap.objs.size items Good)
    (h : ∀ (h' : Heap) (tk : Nat), Good h' → (∀ b o, s.heap.get? b = some o → h'.get? b = some o) → Q (.ref s.heap.objs.size) { s with heap := h', toks := tk }) :
    wpAny (model P w) A (call (.type "set") [.ref l]) Q E s := by
  rcases hl with hl | hl
  · exact call_setL hh hl loop h
  · exact call_setT hh hl loop h
/-- the addresses of pairs, with them -/
theorem pair_addrs {H : Hp} {S : Sto} {Z : Addr → Prop} : ∀ {ps : List (Int × Int)} {ys : List V}, RepA F H S Z ys (ps.map pairD) →
    ∃ ks : List (Addr × List Int), ys = ks.map (fun p => V.ref p.1) ∧ ks.map (·.2) = ps.map (fun p => [p.1, p.2]) ∧ (∀ p ∈ ks, (∃ its, H p.1 = some (.frz (tupObj its) (.tup (p.2.map V.int)))) ∧ S p.1 = none)
  | [], _, .nil => ⟨[], rfl, rfl, fun _ h => by cases h⟩
  | p :: ps, _, .cons r t => by
    obtain ⟨ks, e1, e2, h⟩ := pair_addrs t
    cases r with
    | @tup a its xs _ h1 s1 r1 =>
      have e : xs = [V.int p.1, V.int p.2] := RepA.of_ints (ns := [p.1, p.2]) r1
      subst e
      exact ⟨(a, [p.1, p.2]) :: ks, by rw [e1]; rfl, by rw [List.map_cons, e2]; rfl, fun q hq => by
        rcases List.mem_cons.mp hq with rfl | hq
        · exact ⟨⟨_, h1⟩, s1⟩
        · exact h q hq⟩
theorem loop_pairs {P : Program} {w : World} {A : Around} {h0 : Heap} {S : Addr} {items : Array Value} {ks : List (Addr × List Int)} (U : List (List Int)) (hit : items.toList = ks.map fun p => Value.ref p.1) (hU : ∀ p ∈ ks, p.2 ∈ U) (hfew : U.length + 1 < 64) (hk : ∀ p ∈ ks, IsT P w h0 p.2 p.1) (hS0 : h0.get? S = none) (hu : A.in1.units < cLine) :
    LoopMakes P w A h0 S items (fun h => ∃ L es ep t, SetTR P w h S L es ep t ∧ Got ks ks.length L) := by
  intro R I fp wr St s1 W st hSf hw hS hkp hR
  have hisz : items.size = ks.length := by
    have q := congrArg List.length hit
    rw [Array.length_toList, List.length_map] at q
    exact q
  refine set_update_tups2 W S hSf ks hisz U hU hfew (fun i v hv => ?_) h0 hk hS0 hw hu (items.size - 0) 0 s1 (by omega) (Nat.zero_le _) st hkp ⟨[], #[], 0, _, setTR_fresh hS, Got.zero ks⟩ fun s' L es ep t hm hS' g' _ => hR s' hm ⟨L, es, ep, t, hS', by rw [← hisz]; exact g'⟩
  have q : items.toList[i]? = some v := by rw [Array.getElem?_toList]; exact hv
  rw [hit, List.getElem?_map] at q
  cases hq : ks[i]? with
  | none => rw [hq] at q; cases q
  | some p =>
    rw [hq] at q
    exact ⟨p, rfl, (Option.some.inj q).symm⟩
theorem loop_ints {P : Program} {w : World} {A : Around} {h0 : Heap} {S : Addr} {items : Array Value} {ns : List Int} (hi : IntsAre items.toList ns) (hb : ns.length + 1 < scanBound) :
    LoopMakes P w A h0 S items (fun h => ∃ c, c ≤ ns.length ∧ SetR w h S (fun j => decide (j ∈ ns)) c) := by
  intro R I fp wr St s1 W st hSf hw hS hkp hR
  have hisz : items.size = ns.length := by rw [← Array.length_toList, hi.length]
  refine set_update_ints W S hSf ns hisz hb (fun i v hv => ?_) (items.size - 0) 0 s1 (by omega) (Nat.zero_le _) st ⟨0, Nat.le_refl _, setR_new_at hS⟩ fun s' c hm hc hS' => hR s' hm ⟨c, by rw [← hisz]; exact hc, hS'⟩
  have q : items.toList[i]? = some v := by rw [Array.getElem?_toList]; exact hv
  obtain ⟨x, hx, t, e⟩ := (vals_of_ints hi).get (i := i) (x := V.int (ns.getD i 0)) (by
    have hlt : i < ns.length := by
      have := (List.getElem?_eq_some_iff.mp q).1
      rw [Array.length_toList, hisz] at this; exact this
    rw [List.getElem?_map, List.getElem?_eq_getElem hlt, List.getD_eq_getElem?_getD, List.getElem?_eq_getElem hlt]; rfl)
  rw [q] at hx
  cases hx
  have hlt : i < ns.length := by
    have := (List.getElem?_eq_some_iff.mp q).1
    rw [Array.length_toList, hisz] at this; exact this
  exact ⟨ns.getD i 0, t, by rw [List.getD_eq_getElem?_getD, List.getElem?_eq_getElem hlt]; rfl, e⟩
theorem loop_bls {P : Program} {w : World} {A : Around} {h0 : Heap} {S : Addr} {items : Array Value} {ns : List Bool} (hi : items.toList = ns.map Value.bool) :
    LoopMakes P w A h0 S items (fun h => ∃ c, PpSet.SetB w h S (fun j => decide (j ∈ ns)) c) := by
  intro R I fp wr St s1 W st hSf hw hS hkp hR
  have hisz : items.size = ns.length := by rw [← Array.length_toList, hi, List.length_map]
  have fresh : PpSet.SetB w s1.heap S (fun j => decide (j ∈ ns.take 0)) 0 :=
    ⟨_, #[], 0, _, hS, ⟨rfl, rfl, rfl⟩, rfl, fun e he => by simp at he, by simp, fun k => by simp, by unfold scanBound; decide, rfl, rfl, List.Pairwise.nil, by
      cases w.params.followText "set-order"
      · exact .inr rfl
      · exact .inl rfl⟩
  refine set_update_bls W S hSf ns hisz (fun i v hv => ?_) (items.size - 0) 0 s1 (by omega) (Nat.zero_le _) st ⟨0, fresh⟩ fun s' c hm hS' => hR s' hm ⟨c, hS'⟩
  have q : items.toList[i]? = some v := by rw [Array.getElem?_toList]; exact hv
  rw [hi, List.getElem?_map] at q
  cases hq : ns[i]? with
  | none => rw [hq] at q; cases q
  | some p =>
    rw [hq] at q
    exact ⟨p, rfl, (Option.some.inj q).symm⟩
end
end EN

/-! == E3e == -/
set_option Elab.async false
set_option linter.all false
set_option maxRecDepth 100000
set_option maxHeartbeats 4000000
/-! E3e: the rule for sorted(set(xs)). -/
namespace EN
open PySem PySem.Spec PyProof.Rows L2 PySem.W PySem.Calls

/-- the set at p: sorted of it is d -/
def SetMade (P : Program) (w : World) (F : Fx) (H : Hp) (S : Sto) (Z : Addr → Prop) (p : Addr) (d : D) : Prop :=
  (∃ L : List (Addr × List Int), H p = some (SetTO P w p L) ∧ (∀ q ∈ L, (∃ its, H q.1 = some (.frz (tupObj its) (.tup (q.2.map V.int)))) ∧ S q.1 = none) ∧ (∀ q ∈ L, q.2.length = 2 ∧ TS.Bd 64 q.2) ∧
    ∀ qs : List (Int × Int), qs.Pairwise (fun a b => ltP a b = true) → (∀ a, a ∈ qs ↔ [a.1, a.2] ∈ L.map (·.2)) → d = .list (qs.map pairD)) ∨
  (∃ (f : Int → Bool) (n : Nat), H p = some (SetO w p f n) ∧ n < 64 ∧ ∀ ns : List Int, ns.Pairwise (· < ·) → (∀ k, k ∈ ns ↔ f k = true) → d = .list (ns.map .int)) ∨
  (∃ (f : Bool → Bool) (n : Nat), H p = some (PpSet.SetBO w p f n) ∧ ∀ bs : List Bool, bs.Pairwise (fun a b => ltB a b = true) → (∀ k, k ∈ bs ↔ f k = true) → d = .list (bs.map .bool))

section
variable {F : Fx} {X : Cx}
theorem bd64 {p : Int × Int} (h : 0 ≤ p.1 ∧ p.1 < 64 ∧ 0 ≤ p.2 ∧ p.2 < 64) : TS.Bd 64 [p.1, p.2] := by
  intro x hx
  simp at hx
  rcases hx with rfl | rfl <;> omega
theorem setB_new {w : World} {P : Program} {H : Hp} {h : Heap} {a : Addr} {S : Bool → Bool} {n : Nat} (R : PpSet.SetB w h a S n) : ObjOk P w H h a (PpSet.SetBO w a S n) := by
  have ⟨o, _, _, _, ho, _⟩ := R
  exact ⟨R, ⟨o, ho⟩, fun h1 h2 p k => PpSet.SetB.at p k⟩
theorem set_made_ok (c : CtxOk F X) : CallR X (.type "set") (fun xs H Q => ∃ S Z x dx d, xs = [x] ∧ RelH F H S Z ∧ RepT F H S Z x dx ∧ ssetD dx = some d ∧ ∀ p H', Same H H' → SetMade X.prog X.w F H' S Z p d → Q (.ref p) H') := by
  intro pins s σ H xs us Q I r h
  obtain ⟨S, Z, x, dx, d, rfl, hR, hx, hg, q⟩ := h
  have key : ∀ ds, (dx = .list ds ∨ dx = .tuple ds) → ssetL ds = some d → wpAny (model X.prog X.w) X.A (call (.type "set") us) (EP X pins σ Q) X.xe s := by
    intro ds hd hg
    obtain ⟨l, ys, its, rfl, rv, hl, r1, hz⟩ := seq_raw I hx hd
    rw [Vals.ref1 r]
    have hn : H s.heap.objs.size = none := I.hok.fresh (Nat.le_refl _)
    have hh := I.ok.hd c.calm
    have hu := c.units
    unfold ssetL at hg
    split at hg
    · rename_i ps hps
      split at hg
      · rename_i hb
        rw [Bool.and_eq_true, decide_eq_true_eq] at hb
        cases hg
        have e1 := asPairs_eq hps
        subst e1
        obtain ⟨ks, e2, e3, e4⟩ := pair_addrs r1
        subst e2
        have eits := refs_of_vals rv
        have mk2 : ∀ {v : List Int}, v ∈ ks.map (·.2) ↔ ∃ p ∈ ps, v = [p.1, p.2] := fun {v} => by
          rw [e3, List.mem_map]
          exact ⟨fun ⟨p, h1, h2⟩ => ⟨p, h1, h2.symm⟩, fun ⟨p, h1, h2⟩ => ⟨p, h1, h2.symm⟩⟩
        refine call_set_any hh hl (loop_pairs ((sortU ltP ps).map fun p => [p.1, p.2]) (by simpa using eits) (fun p hp => ?_) (by rw [List.length_map]; omega) (fun p hp => (e4 p hp).1.elim fun its z => I.isT (sqF z)) ?_ (by show X.A.units + 1 + 1 + 1 < cLine; omega)) fun h' tk ⟨L, es, ep, t, R, g⟩ k => ?_
        · obtain ⟨a, ha, e⟩ := mk2.mp (List.mem_map.mpr ⟨p, hp, rfl⟩)
          exact List.mem_map.mpr ⟨a, mem_sortU.mpr ha, e.symm⟩
        · cases z : s.heap.get? s.heap.objs.size with
          | none => rfl
          | some o => exact absurd (Heap.lt_size z) (Nat.lt_irrefl _)
        · refine ⟨.ref s.heap.objs.size, upd H s.heap.objs.size (SetTO X.prog X.w s.heap.objs.size L), I.laid (t' := tk) k (Nat.le_refl _) (setTO_new R.t0), rfl, q _ _ (same_upd hn) (.inl ⟨L, upd_same, fun p hp => ?_, fun p hp => ?_, fun qs h1 h2 => ?_⟩)⟩
          · have hm := List.mem_of_mem_take (g.sub p hp)
            exact ⟨(e4 p hm).1.elim fun its z => ⟨its, same_upd hn _ _ z⟩, (e4 p hm).2⟩
          · have hm := List.mem_of_mem_take (g.sub p hp)
            obtain ⟨a, ha, e⟩ := mk2.mp (List.mem_map.mpr ⟨p, hm, rfl⟩)
            rw [e]
            have := List.all_eq_true.mp hb.1 a ha
            rw [decide_eq_true_eq] at this
            exact ⟨rfl, bd64 this⟩
          · congr 2
            symm
            refine sortU_unique lin_ltP h1 fun a => ?_
            rw [h2]
            constructor
            · intro ha
              obtain ⟨p, hp, e⟩ := List.mem_map.mp ha
              have hm := List.mem_of_mem_take (g.sub p hp)
              obtain ⟨b, hb', e'⟩ := mk2.mp (List.mem_map.mpr ⟨p, hm, rfl⟩)
              rw [e] at e'
              injection e' with e1 e2
              injection e2 with e2 _
              have : a = b := Prod.ext e1 e2
              rw [this]; exact hb'
            · intro ha
              obtain ⟨p, hp, e⟩ := List.mem_map.mp (mk2.mpr ⟨a, ha, rfl⟩)
              rw [← e]
              exact g.all p (by rw [List.take_length]; exact hp)
      · cases hg
    · split at hg
      · rename_i ns hns
        split at hg
        · rename_i hlen
          cases hg
          have e1 := asInts_eq hns
          subst e1
          cases r1.of_ints
          refine call_set_any hh hl (loop_ints (ns := ns) (by simpa using rv.ints) (by unfold scanBound; omega)) fun h' tk hg k => ?_
          obtain ⟨c', hc, R⟩ := hg
          exact ⟨.ref s.heap.objs.size, upd H s.heap.objs.size (SetO X.w s.heap.objs.size (fun j => decide (j ∈ ns)) c'), I.laid (t' := tk) k (Nat.le_refl _) (setO_new R), rfl, q _ _ (same_upd hn) (.inr (.inl ⟨_, c', upd_same, by omega, fun ms h1 h2 => by
            congr 2
            symm
            exact sortU_unique lin_ltI (h1.imp fun h => decide_eq_true h) fun a => by rw [h2, decide_eq_true_eq]⟩))⟩
        · cases hg
      · split at hg
        · rename_i bs hbs
          cases hg
          have e1 := asBls_eq hbs
          subst e1
          cases r1.of_bls
          refine call_set_any hh hl (loop_bls (ns := bs) (by simpa using rv.bls)) fun h' tk hg k => ?_
          obtain ⟨c', R⟩ := hg
          exact ⟨.ref s.heap.objs.size, upd H s.heap.objs.size (PpSet.SetBO X.w s.heap.objs.size (fun j => decide (j ∈ bs)) c'), I.laid (t' := tk) k (Nat.le_refl _) (setB_new R), rfl, q _ _ (same_upd hn) (.inr (.inr ⟨_, c', upd_same, fun ms h1 h2 => by
            congr 2
            symm
            exact sortU_unique lin_ltB h1 fun a => by rw [h2, decide_eq_true_eq]⟩))⟩
        · cases hg
  unfold ssetD at hg
  split at hg
  · exact key _ (.inl rfl) hg
  · exact key _ (.inr rfl) hg
  · cases hg
theorem code_lt {x y x' y' : Int} (h : TS.code 64 [x, y] ≤ TS.code 64 [x', y']) (ne : ([x, y] : List Int) ≠ [x', y']) (b : 0 ≤ x ∧ x < 64 ∧ 0 ≤ y ∧ y < 64) (b' : 0 ≤ x' ∧ x' < 64 ∧ 0 ≤ y' ∧ y' < 64) : ltP (x, y) (x', y') = true := by
  rw [code_pair, code_pair] at h
  have ne : ¬ (x = x' ∧ y = y') := fun z => ne (by rw [z.1, z.2])
  simp only [ltP, decide_eq_true_eq]
  omega
/-- the pairs of keys -/
def prOf (l : List Int) : Int × Int := (l.getD 0 0, l.getD 1 0)
theorem prOf_eq {l : List Int} (h : l.length = 2) : l = [(prOf l).1, (prOf l).2] := by
  match l, h with
  | [x, y], _ => rfl
theorem sorted_made_ok (c : CtxOk F X) : CallR X (.builtin "sorted") (fun xs H Q => ∃ S Z p d, xs = [.ref p] ∧ RelH F H S Z ∧ SetMade X.prog X.w F H S Z p d ∧ ∀ v H', Same H H' → Rep F H' S Z v d → Q v H') := by
  intro pins s σ H xs us Q I r h
  obtain ⟨S, Z, p, d, rfl, hR, hm, q⟩ := h
  have hu := c.units
  rcases hm with ⟨L, hp, hk, hb, hd⟩ | ⟨f, n, hp, hn, hd⟩ | ⟨f, n, hp, hd⟩
  · refine cr_sortedT c.calm pins s σ H _ us Q I r ⟨p, L, 2, 64, rfl, hp, fun a ha => (hk a ha).1.elim fun its z => sqF z, by decide, hb, fun L' a pm nd few pw n => ?_⟩
    have bL : ∀ z ∈ L', z.2.length = 2 ∧ TS.Bd 64 z.2 := fun z hz => hb z (pm.mem_iff.mp hz)
    have pws : (L'.map fun z => prOf z.2).Pairwise (fun a b => ltP a b = true) := by
      refine List.pairwise_map.mpr ?_
      have both := pw.and (List.pairwise_map.mp nd)
      refine List.Pairwise.imp_of_mem (fun {y z} hy hz hh => ?_) both
      obtain ⟨l1, b1⟩ := bL y hy
      obtain ⟨l2, b2⟩ := bL z hz
      have e1 := prOf_eq l1
      have e2 := prOf_eq l2
      have bd : ∀ {t : List Int}, TS.Bd 64 t → t = [(prOf t).1, (prOf t).2] → 0 ≤ (prOf t).1 ∧ (prOf t).1 < 64 ∧ 0 ≤ (prOf t).2 ∧ (prOf t).2 < 64 := fun {t} bt et => by
        have q1 := bt (prOf t).1 (by rw [et]; simp [prOf])
        have q2 := bt (prOf t).2 (by rw [et]; simp [prOf])
        omega
      refine code_lt (x := (prOf y.2).1) (y := (prOf y.2).2) (x' := (prOf z.2).1) (y' := (prOf z.2).2) ?_ ?_ (bd b1 e1) (bd b2 e2)
      · rw [← e1, ← e2]; exact hh.1
      · rw [← e1, ← e2]; exact hh.2
    have hd' := hd _ pws fun a => by
      rw [List.mem_map]
      constructor
      · rintro ⟨z, hz, rfl⟩
        have e1 := prOf_eq (bL z hz).1
        rw [← e1]
        exact List.mem_map.mpr ⟨z, pm.mem_iff.mp hz, rfl⟩
      · intro ha
        obtain ⟨z, hz, e⟩ := List.mem_map.mp ha
        exact ⟨z, pm.mem_iff.mpr hz, by rw [e]; rfl⟩
    subst hd'
    refine q _ _ (same_upd n) (Rep.newL hR n ?_)
    rw [List.map_map]
    have all : ∀ l : List (Addr × List Int), (∀ z ∈ l, z ∈ L) → RepA F H S Z (l.map fun q => V.ref q.1) (l.map (pairD ∘ fun z => prOf z.2)) := by
      intro l
      induction l with
      | nil => intro _; exact .nil
      | cons z l ih =>
        intro hl
        have hz := hl z List.mem_cons_self
        have e1 := prOf_eq (hb z hz).1
        obtain ⟨⟨its, k1⟩, k2⟩ := hk z hz
        refine .cons (.tup k1 k2 ?_) (ih fun y hy => hl y (List.mem_cons_of_mem _ hy))
        rw [e1]
        exact RepA.ints [_, _]
    exact all L' fun z hz => pm.mem_iff.mp hz
  · refine cr_sortedSet c.calm pins s σ H _ us Q I r ⟨p, f, n, rfl, hp, hn, fun ns a h1 h2 h3 hn' => ?_⟩
    have := hd ns h1 h2
    subst this
    exact q _ _ (same_upd hn') (Rep.newL hR hn' (RepA.ints ns))
  · have R : PpSet.SetB X.w s.heap p f n := (I.hok p _ hp).1
    rw [Vals.ref1 r]
    refine sorted_setB R (I.ok.hd c.calm) (by omega) fun s' a out c' bs k g o hp' hg hb h1 h2 => ?_
    have := hd bs h1 h2
    subst this
    have hlen : (bs.map V.bl).length ≤ sizeLine := by
      have nd : bs.Nodup := h1.imp fun {a b} h e => by subst e; cases a <;> simp [ltB] at h
      have q := nodup_len (U := [true, false]) nd fun x _ => by cases x <;> simp
      rw [List.length_map, sizeLine_eq]
      simp at q
      omega
    have hn : H a = none := I.hok.fresh hp'
    have vb : ∀ bs : List Bool, Vals (bs.map V.bl) (bs.map Value.bool) := by
      intro bs
      induction bs with
      | nil => exact .nil
      | cons b bs ih => exact .cons rfl ih
    have J : Inv X pins σ (upd H a (.lst (bs.map V.bl))) { s with heap := s'.heap, gens := s'.gens, drawn := s'.drawn, toks := s'.toks } :=
      I.call (ch := []) (Un.laid k hp' hn) (I.hok.laid k hp' ⟨hlen, out.toList, c', by rw [hb]; exact vb bs, hg⟩) (by rw [g]; exact I.bare) (fun _ z => nomatch z)
    have e : s' = { s with heap := s'.heap, gens := s'.gens, drawn := s'.drawn, toks := s'.toks } := by
      cases s'
      cases s
      cases o
      rfl
    rw [e]
    refine ⟨.ref a, _, J, rfl, q _ _ (same_upd hn) (Rep.newL hR hn ?_)⟩
    have rb : ∀ bs : List Bool, RepA F H S Z (bs.map V.bl) (bs.map PyData.bool) := by
      intro bs
      induction bs with
      | nil => exact .nil
      | cons b bs ih => exact .cons (.bl b) ih
    exact rb bs
end
end EN

/-! == E4 == -/
set_option Elab.async false
set_option linter.all false
set_option maxRecDepth 100000
set_option maxHeartbeats 4000000
set_option autoImplicit false
/-! E4: what a piece of code does, told on data; expressions. -/
namespace EN
open PySem PySem.Spec PyProof.Rows L2

abbrev Lo := List (Option D)
abbrev QX := Str → Sto → Prop
/-- what an expression does: its results by the outer wish -/
structure M (α : Type) where
  run : Lo → Sto → (α → Sto → Prop) → QX → Prop
  mono : ∀ {ρ : Lo} {S : Sto} {Q Q' : α → Sto → Prop} {E E' : QX}, (∀ a S, Q a S → Q' a S) → (∀ x S, E x S → E' x S) → run ρ S Q E → run ρ S Q' E'
namespace M
variable {α β : Type}
def val (a : α) : M α := ⟨fun _ S Q _ => Q a S, fun q _ h => q _ _ h⟩
def opt (o : Sto → Option α) : M α := ⟨fun _ S Q _ => ∃ a, o S = some a ∧ Q a S, fun q _ ⟨a, e, h⟩ => ⟨a, e, q _ _ h⟩⟩
def var (i : Nat) : M D := ⟨fun ρ S Q _ => ∃ d, ρ[i]? = some (some d) ∧ Q d S, fun q _ ⟨a, e, h⟩ => ⟨a, e, q _ _ h⟩⟩
def bind (m : M α) (f : α → M β) : M β := ⟨fun ρ S Q E => m.run ρ S (fun a S1 => (f a).run ρ S1 Q E) E, fun q e h => m.mono (fun a _ k => (f a).mono q e k) e h⟩
end M
def asB : D → Option Bool
  | .bool b => some b
  | _ => none
/-- a number from data that is one -/
def asI : D → Option Int
  | .int i => some i
  | _ => none
def rdB (r : Bool) (S : Sto) (d : D) : D := if r then rd S d else d

section
variable (F : Fx)
structure Sl (H : Hp) (S : Sto) (Z : Addr → Prop) (σ : L2.St) (ρ : Lo) : Prop where
  len : σ.length = ρ.length
  get : ∀ (i : Nat) (d : D), ρ[i]? = some (some d) → ∃ v, σ[i]? = some (some v) ∧ Rep F H S Z v d
def Stp (H : Hp) (S : Sto) (Z : Addr → Prop) (H' : Hp) (S' : Sto) : Prop := Ext H S H' S' ∧ RelH F H' S' Z
abbrev RP (α β : Type) := Hp → Sto → (Addr → Prop) → β → α → Prop
/-- an exception's own dict, where it has one -/
def DOk (H : Hp) (d : Option Addr) : Prop := ∀ x, d = some x → ∃ fs, H x = some (.xd fs)
def xW (W : WX) (σ : L2.St) (H : Hp) (S : Sto) (Z : Addr → Prop) : QX := fun x S' => ∀ (C : Addr) (d : Option Addr) (H' : Hp), F.mg x = some (.ref C) → Stp F H S Z H' S' → DOk H' d → W (.ref C) d σ H'
def runG {α β : Type} (W : WX) (R : RP α β) (σ : L2.St) (ρ : Lo) (H : Hp) (S : Sto) (Z : Addr → Prop) (m : M α) (Q : β → Hp → Prop) : Prop :=
  m.run ρ S (fun a S' => ∀ b H', Stp F H S Z H' S' → R H' S' Z b a → Q b H') (xW F W σ H S Z)
def tG {α β : Type} (W : WX) (R : RP α β) (m : M α) : L2.St → Hp → (β → Hp → Prop) → Prop := fun σ H Q =>
  ∃ ρ S Z, Sl F H S Z σ ρ ∧ RelH F H S Z ∧ runG F W R σ ρ H S Z m Q
abbrev rD : RP D V := fun H S Z v d => Rep F H S Z v d
abbrev rA : RP (List D) (List V) := fun H S Z v d => RepA F H S Z v d
abbrev rB : RP Bool Bool := fun _ _ _ b c => b = c
/-- what stays, but for the lists in the making -/
def ExtX (Z : Addr → Prop) (H : Hp) (S : Sto) (H' : Hp) (S' : Sto) : Prop := ∀ a o, H a = some o → S a = none → ¬ Z a → (∀ ps, o ≠ .tbl ps) → H' a = some o ∧ S' a = none
/-- an iterator that hands out these things -/
def ItD (P : RP D V) : RP (List D) It := fun H1 S1 Z J ds => ∀ H S Z', ExtX Z H1 S1 H S → (∀ a, Z' a → Z a ∨ H1 a = none) → RelH F H S Z' →
  J.stop ds.length H ∧ ∀ i d, ds[i]? = some d → J.go i H ∧ ∀ x H', J.yld i H x H' → Same H H' ∧ P H' S Z' x d
abbrev tE (W : WX) (m : M D) : TE := tG F W (rD F) m
abbrev tL (W : WX) (m : M (List D)) : TA := tG F W (rA F) m
abbrev tTB (W : WX) (m : M Bool) : TT := tG F W rB m
/-- known for one step: a pair that an iterator hands out -/
def RepP : RP D V := fun H S Z v d => Rep F H S Z v d ∨ ∃ T xs ds, v = .ref T ∧ d = .tuple ds ∧ H T = some (.tup xs) ∧ RepA F H S Z xs ds
abbrev tIt (P : RP D V) (W : WX) (m : M (List D)) : TI := tG F W (ItD F P) m
end

section
variable {F : Fx} {X : Cx} {W : WX} {H H' H1 H2 : Hp} {S S' S1 S2 : Sto} {Z : Addr → Prop} {σ : L2.St} {ρ : Lo}
theorem ExtX.of (e : Ext H S H' S') : ExtX Z H S H' S' := fun a o h s _ n => e a o h s n
theorem ExtX.trans (a : ExtX Z H S H1 S1) (b : ExtX Z H1 S1 H2 S2) : ExtX Z H S H2 S2 := fun c o h s z n => b c o (a c o h s z n).1 (a c o h s z n).2 z n
theorem ExtX.updZ {p : Addr} {o : HO} (z : Z p) : ExtX Z H S (L2.upd H p o) S := fun a u h s nz _ => ⟨by rw [upd_ne (show a ≠ p from fun e => nz (by rw [e]; exact z))]; exact h, s⟩
section
variable {Z' : Addr → Prop} (zl : ∀ a, Z a → ∃ xs, H a = some (.lst xs)) (e : ExtX Z H S H' S') (z : ∀ a, Z' a → Z a ∨ H a = none)
include zl e z
mutual
theorem Rep.monoX : ∀ {v : V} {d : D}, Rep F H S Z v d → Rep F H' S' Z' v d
  | _, _, .non => .non
  | _, _, .bl b => .bl b
  | _, _, .int i => .int i
  | _, _, .str x => .str x
  | _, _, .lst h s r => .lst (e _ _ h s.1 s.2 (fun _ => nofun)).1 ⟨(e _ _ h s.1 s.2 (fun _ => nofun)).2, fun q => (z _ q).elim s.2 fun n => by rw [h] at n; cases n⟩ (RepA.monoX r)
  | _, _, .tup (a := a) h s r =>
    have nz : ¬ Z a := fun q => by obtain ⟨xs, k⟩ := zl _ q; rw [h] at k; cases k
    .tup (e _ _ h s nz (fun _ => nofun)).1 (e _ _ h s nz (fun _ => nofun)).2 (RepA.monoX r)
  | _, _, .ref a => .ref a
  | _, _, .fn h k => .fn h k
  | _, _, .dic h s r => .dic (e _ _ h s.1 s.2 (fun _ => nofun)).1 ⟨(e _ _ h s.1 s.2 (fun _ => nofun)).2, fun q => (z _ q).elim s.2 fun n => by rw [h] at n; cases n⟩ (RepK.monoX r)
theorem RepA.monoX : ∀ {vs : List V} {ds : List D}, RepA F H S Z vs ds → RepA F H' S' Z' vs ds
  | _, _, .nil => .nil
  | _, _, .cons r t => .cons (Rep.monoX r) (RepA.monoX t)
theorem RepK.monoX : ∀ {vs : List (Key × V)} {ds : List (D × D)}, RepK F H S Z vs ds → RepK F H' S' Z' vs ds
  | _, _, .nil => .nil
  | _, _, .cons r t => .cons (Rep.monoX r) (RepK.monoX t)
end
end
theorem if_true_of {c : Prop} [Decidable c] {a b : Prop} (h : c) (q : a) : if c then a else b := by rw [if_pos h]; exact q
theorem if_false_of {c : Prop} [Decidable c] {a b : Prop} (h : ¬ c) (q : b) : if c then a else b := by rw [if_neg h]; exact q
theorem Sl.mono (s : Sl F H S Z σ ρ) (e : Ext H S H' S') : Sl F H' S' Z σ ρ := ⟨s.len, fun i d h => (s.get i d h).elim fun v q => ⟨v, q.1, q.2.mono e⟩⟩
theorem Sl.set (s : Sl F H S Z σ ρ) (i : Nat) {v : V} {d : D} (r : Rep F H S Z v d) : Sl F H S Z (σ.set i (some v)) (ρ.set i (some d)) := by
  refine ⟨by rw [List.length_set, List.length_set, s.len], fun j e h => ?_⟩
  rw [List.getElem?_set] at h ⊢
  by_cases hij : i = j
  · subst hij
    rw [if_pos rfl] at h ⊢
    rw [s.len]
    split at h
    · rename_i hl
      rw [if_pos hl]
      cases h
      exact ⟨v, rfl, r⟩
    · cases h
  · rw [if_neg hij] at h ⊢
    exact s.get j e h
theorem Stp.refl (h : RelH F H S Z) : Stp F H S Z H S := ⟨Ext.refl _ _, h⟩
theorem Stp.trans (a : Stp F H S Z H1 S1) (b : Stp F H1 S1 Z H2 S2) : Stp F H S Z H2 S2 := ⟨a.1.trans b.1, b.2⟩
theorem Stp.same (h : RelH F H S Z) (e : Same H H') : Stp F H S Z H' S := ⟨Ext.same e, h.same e⟩
theorem _root_.L2.PE.imp {e : Expr} {t t' : TE} (h : PE X e t) (i : ∀ σ H Q, t' σ H Q → t σ H Q) : PE X e t' := ⟨fun pins s σ H Q I q => h.run pins s σ H Q I (i _ _ _ q)⟩
theorem _root_.L2.PT.imp {e : Expr} {t t' : TT} (h : PT X e t) (i : ∀ σ H Q, t' σ H Q → t σ H Q) : PT X e t' := ⟨fun pins s σ H Q I q => h.run pins s σ H Q I (i _ _ _ q)⟩
theorem _root_.L2.PW.imp {e : Expr} {t t' : TT} (h : PW X e t) (i : ∀ σ H Q, t' σ H Q → t σ H Q) : PW X e t' := ⟨fun whole pins s σ H Q I q => h.run whole pins s σ H Q I (i _ _ _ q)⟩
theorem _root_.L2.PA.imp {e : List Expr} {t t' : TA} (h : PA X e t) (i : ∀ σ H Q, t' σ H Q → t σ H Q) : PA X e t' := ⟨fun pos pins s σ H Q I q => h.run pos pins s σ H Q I (i _ _ _ q)⟩
theorem _root_.L2.PI.imp {tg e : Expr} {t t' : TI} (h : PI X tg e t) (i : ∀ σ H Q, t' σ H Q → t σ H Q) : PI X tg e t' := ⟨fun pins s σ H Q I q => h.run pins s σ H Q I (i _ _ _ q)⟩
theorem _root_.L2.PS.imp {e : Stmt} {t t' : TS} (h : PS X e t) (i : ∀ D σ H, t' D σ H → t D σ H) : PS X e t' := ⟨fun pins s σ H Q I q => h.run pins s σ H Q I (i _ _ _ q)⟩
theorem _root_.L2.PSs.imp {e : List Stmt} {t t' : TS} (h : PSs X e t) (i : ∀ D σ H, t' D σ H → t D σ H) : PSs X e t' := ⟨fun pins s σ H Q I q => h.run pins s σ H Q I (i _ _ _ q)⟩
theorem xW_mono (a : Stp F H S Z H1 S1) {x : Str} {S' : Sto} (h : xW F W σ H S Z x S') : xW F W σ H1 S1 Z x S' := fun C d H' m b => h C d H' m (a.trans b)
theorem runG_from {α β : Type} {R : RP α β} {m : M α} {Q : β → Hp → Prop} (a : Stp F H S Z H1 S1)
    (h : m.run ρ S1 (fun a S' => ∀ b H', Stp F H S Z H' S' → R H' S' Z b a → Q b H') (xW F W σ H S Z)) : runG F W R σ ρ H1 S1 Z m Q :=
  m.mono (fun _ _ k b H' st r => k b H' (a.trans st) r) (fun _ _ k => xW_mono a k) h
theorem run_step {α β α' β' : Type} {R : RP α β} {R' : RP α' β'} {m : M α} {f : α → M α'} {Q : β' → Hp → Prop} {K : β → Hp → Prop} (sl : Sl F H S Z σ ρ) (h : runG F W R' σ ρ H S Z (m.bind f) Q)
    (k : ∀ v d H1 S1, Stp F H S Z H1 S1 → R H1 S1 Z v d → Sl F H1 S1 Z σ ρ → runG F W R' σ ρ H1 S1 Z (f d) Q → K v H1) : runG F W R σ ρ H S Z m K :=
  m.mono (fun a S1 h1 b H1 st r => k b a H1 S1 st r (sl.mono st.1) (runG_from st h1)) (fun _ _ h => h) h
theorem runG_val {α β : Type} {R : RP α β} {a : α} {Q : β → Hp → Prop} (rh : RelH F H S Z) (h : runG F W R σ ρ H S Z (M.val a) Q) {b : β} (r : R H S Z b a) : Q b H := h b H (.refl rh) r
theorem runG_opt {α β : Type} {R : RP α β} {o : Sto → Option α} {Q : β → Hp → Prop} (h : runG F W R σ ρ H S Z (M.opt o) Q) : ∃ a, o S = some a ∧ ∀ b H', Stp F H S Z H' S → R H' S Z b a → Q b H' := h
theorem rdB_rep (rh : RelH F H S Z) (r : Bool) {v : V} {d : D} (q : Rep F H S Z v d) : RepT F H S Z v (rdB r S d) := by
  cases r
  · exact .inl q
  · exact Rep.rd rh q

/-! ### names, constants -/
variable {pos : Pos}
theorem e_var {i : Nat} {x : Str} (hN : X.N[i]? = some x) (hv : Vis X.env.scope x) (hd : (x == ("__debug__" : Str)) = false := by decide) (hcd : (x == ("__classdict__" : Str)) = false := by decide) : PE X (.Name x pos) (tE F W (.var i)) :=
  (pe_var hN hv hd hcd).imp fun σ H Q ⟨ρ, S, Z, sl, rh, d, e, h⟩ => (sl.get i d e).elim fun v q => ⟨v, q.1, h v H (.refl rh) q.2⟩
theorem e_int {i : Int} {j} : PE X (.Constant (.int i) j pos) (tE F W (.val (.int i))) := pe_int.imp fun σ H Q ⟨ρ, S, Z, sl, rh, h⟩ => runG_val rh h (.int i)
theorem e_bl {i : Bool} {j} : PE X (.Constant (.bool i) j pos) (tE F W (.val (.bool i))) := pe_bl.imp fun σ H Q ⟨ρ, S, Z, sl, rh, h⟩ => runG_val rh h (.bl i)
theorem e_non {j} : PE X (.Constant .none j pos) (tE F W (.val .none)) := pe_non.imp fun σ H Q ⟨ρ, S, Z, sl, rh, h⟩ => runG_val rh h .non
theorem e_str {x : Str} {j} : PE X (.Constant (.str x) j pos) (tE F W (.val (.str x))) := pe_str.imp fun σ H Q ⟨ρ, S, Z, sl, rh, h⟩ => runG_val rh h (.str x)
theorem e_glob {x : Str} {v : V} {u : Value} {d : D} (hg : Gl X x) (hm : X.mg x = some u) (r : RelV v u) (hr : ∀ H S Z, Rep F H S Z v d) (hd : (x == ("__debug__" : Str)) = false := by decide) : PE X (.Name x pos) (tE F W (.val d)) :=
  (pe_glob hg hm r hd).imp fun σ H Q ⟨ρ, S, Z, sl, rh, h⟩ => runG_val rh h (hr H S Z)

/-! ### operators -/
def M.op2 (r1 r2 : Bool) (g : D → D → Option D) (ma mb : M D) : M D := ma.bind fun x => mb.bind fun y => .opt fun S => g (rdB r1 S x) (rdB r2 S y)
variable {a b c : Expr} {ma mb mc : M D}
theorem opT {f : Value → Value → Sem Value} {g : D → D → Option D} (r1 r2 : Bool) (ho : OpD F X f g) : ∀ σ H Q, tE F W (M.op2 r1 r2 g ma mb) σ H Q →
    tOp (fun x y H Q => ∃ S Z dx dy d, RelH F H S Z ∧ RepT F H S Z x dx ∧ RepT F H S Z y dy ∧ g dx dy = some d ∧ ∀ v H', Same H H' → Rep F H' S Z v d → Q v H') (tE F W ma) (tE F W mb) σ H Q :=
  fun σ H Q ⟨ρ, S, Z, sl, rh, h⟩ => ⟨ρ, S, Z, sl, rh, run_step sl h fun x dx H1 S1 s1 rx sl1 h1 => ⟨ρ, S1, Z, sl1, s1.2, run_step sl1 h1 fun y dy H2 S2 s2 ry sl2 h2 => by
    obtain ⟨d, e, q⟩ := h2
    exact ⟨S2, Z, _, _, d, s2.2, rdB_rep s2.2 r1 (rx.mono s2.1), rdB_rep s2.2 r2 ry, e, fun v H' sm r => q v H' (.same s2.2 sm) r⟩⟩⟩
theorem e_bin (cx : CtxOk F X) (o : BOp) (r1 r2 : Bool) (ha : PE X a (tE F W ma)) (hb : PE X b (tE F W mb)) : PE X (.BinOp a (bop o) b pos) (tE F W (M.op2 r1 r2 (op2 o) ma mb)) :=
  (pe_op (bin_ok cx o) ha hb).imp (opT r1 r2 (bin_ok cx o))
theorem e_cmp (cx : CtxOk F X) (o : COp) (r1 r2 : Bool) (ha : PE X a (tE F W ma)) (hb : PE X b (tE F W mb)) (hm : behindInMarks (cop o) b = false := by with_unfolding_all rfl) : PE X (.Compare a [cop o] [b] pos) (tE F W (M.op2 r1 r2 (cmD o) ma mb)) :=
  (pe_cmpR (cmp_ok cx o) ha hb hm).imp (opT r1 r2 (cmp_ok cx o))
def M.bool (m : M D) : M Bool := m.bind fun d => .opt fun _ => asB d
theorem asB_eq {d : D} {k : Bool} (h : asB d = some k) : d = .bool k := by
  cases d <;> simp [asB] at h
  rw [h]
theorem boolT : ∀ σ H Q, tTB F W (M.bool ma) σ H Q → tTest (tE F W ma) σ H Q := fun σ H Q ⟨ρ, S, Z, sl, rh, h⟩ => ⟨ρ, S, Z, sl, rh, run_step sl h fun x dx H1 S1 s1 rx sl1 h1 => by
  obtain ⟨k, e, q⟩ := h1
  rw [asB_eq e] at rx
  cases rx
  exact ⟨k, rfl, q k H1 (.refl s1.2) rfl⟩⟩
theorem t_cmp (cx : CtxOk F X) (o : COp) (r1 r2 : Bool) (ha : PE X a (tE F W ma)) (hb : PE X b (tE F W mb)) (hm : behindInMarks (cop o) b = false := by with_unfolding_all rfl) : PT X (.Compare a [cop o] [b] pos) (tTB F W (.bool (M.op2 r1 r2 (cmD o) ma mb))) :=
  (pt_cmpR (cmp_ok cx o) ha hb hm).imp fun σ H Q h => PT_test (opT r1 r2 (cmp_ok cx o)) (boolT _ _ _ h)
where
  PT_test {t t' : TE} (i : ∀ σ H Q, t σ H Q → t' σ H Q) {σ : L2.St} {H : Hp} {Q : Bool → Hp → Prop} (h : tTest t σ H Q) : tTest t' σ H Q := i _ _ _ h
theorem t_val (ha : PE X a (tE F W ma)) (he : ∀ whole, isTrue a X.env whole = (do let v ← whole; standAt a.pos; holding [v] (truthy v)) := by intro _; rfl) : PT X a (tTB F W (.bool ma)) :=
  (pt_val ha he).imp boolT
/-- x op y op' z -/
def M.chain (g g' : D → D → Option D) (ma mb mc : M D) : M D := ma.bind fun x => mb.bind fun y => (M.opt fun _ => (g x y).bind asB).bind fun k => cond k (mc.bind fun z => .opt fun _ => g' y z) (.val (.bool false))
theorem chainT {f f' : Value → Value → Sem Value} {g g' : D → D → Option D} (ho : OpD F X f g) (ho' : OpD F X f' g') : ∀ σ H Q, tE F W (M.chain g g' ma mb mc) σ H Q →
    tChain (fun x y H Q => ∃ S Z dx dy d, RelH F H S Z ∧ RepT F H S Z x dx ∧ RepT F H S Z y dy ∧ g dx dy = some d ∧ ∀ v H', Same H H' → Rep F H' S Z v d → Q v H')
      (fun x y H Q => ∃ S Z dx dy d, RelH F H S Z ∧ RepT F H S Z x dx ∧ RepT F H S Z y dy ∧ g' dx dy = some d ∧ ∀ v H', Same H H' → Rep F H' S Z v d → Q v H') (tE F W ma) (tE F W mb) (tE F W mc) σ H Q :=
  fun σ H Q ⟨ρ, S, Z, sl, rh, h⟩ => ⟨ρ, S, Z, sl, rh, run_step sl h fun x dx H1 S1 s1 rx sl1 h1 => ⟨ρ, S1, Z, sl1, s1.2, run_step sl1 h1 fun y dy H2 S2 s2 ry sl2 h2 => by
    obtain ⟨k, e, q⟩ := h2
    cases eg : g dx dy with
    | none => rw [eg] at e; cases e
    | some d =>
      rw [eg] at e
      have := asB_eq e
      subst this
      refine ⟨S2, Z, _, _, _, s2.2, .inl (rx.mono s2.1), .inl ry, eg, fun v H3 sm r => ?_⟩
      cases r
      refine ⟨k, rfl, ?_⟩
      have s3 : Stp F H2 S2 Z H3 S2 := .same s2.2 sm
      have q' := runG_from s3 q
      cases k with
      | false => exact runG_val s3.2 q' (.bl false)
      | true => exact ⟨ρ, S2, Z, sl2.mono s3.1, s3.2, run_step (sl2.mono s3.1) q' fun z dz H4 S4 s4 rz sl4 h4 => by
          obtain ⟨d, e, q⟩ := h4
          exact ⟨S4, Z, _, _, d, s4.2, .inl ((ry.mono s3.1).mono s4.1), .inl rz, e, fun v H' sm r => q v H' (.same s4.2 sm) r⟩⟩⟩⟩
theorem e_chain (cx : CtxOk F X) (o o' : COp) (ha : PE X a (tE F W ma)) (hb : PE X b (tE F W mb)) (hc : PE X c (tE F W mc)) (hm : lastMarks [cop o, cop o'] [b, c] = false := by with_unfolding_all rfl) :
    PE X (.Compare a [cop o, cop o'] [b, c] pos) (tE F W (M.chain (cmD o) (cmD o') ma mb mc)) :=
  (pe_chain (cmp_ok cx o) (cmp_ok cx o') ha hb hc hm).imp (chainT (cmp_ok cx o) (cmp_ok cx o'))
theorem t_chain (cx : CtxOk F X) (o o' : COp) (ha : PE X a (tE F W ma)) (hb : PE X b (tE F W mb)) (hc : PE X c (tE F W mc)) (hm : lastMarks [cop o, cop o'] [b, c] = false := by with_unfolding_all rfl) :
    PT X (.Compare a [cop o, cop o'] [b, c] pos) (tTB F W (.bool (M.chain (cmD o) (cmD o') ma mb mc))) :=
  (pt_chain (cmp_ok cx o) (cmp_ok cx o') ha hb hc hm).imp fun σ H Q h => t_cmp.PT_test (chainT (cmp_ok cx o) (cmp_ok cx o')) (boolT _ _ _ h)
/-! ### and, or, not, if -/
def M.ite {α : Type} (m : M Bool) (a b : M α) : M α := m.bind fun k => cond k a b
def M.andB (m n : M Bool) : M Bool := m.ite n (.val false)
def M.orB (m n : M Bool) : M Bool := m.ite (.val true) n
def M.notB (m : M Bool) : M Bool := m.bind fun k => .val (!k)
def M.andV (m n : M D) : M D := m.bool.ite n (.val (.bool false))
def M.orV (m n : M D) : M D := m.bool.ite (.val (.bool true)) n
def M.notV (m : M D) : M D := m.bool.bind fun k => .val (.bool (!k))
variable {na nb : M Bool} {rest : List Expr}
theorem w_and1 (ha : PT X a (tTB F W na)) : PW X (.BoolOp .And [a] pos) (tTB F W na) := pw_and1 ha
theorem w_or1 (ha : PT X a (tTB F W na)) : PW X (.BoolOp .Or [a] pos) (tTB F W na) := pw_or1 ha
theorem w_and (ha : PT X a (tTB F W na)) (hb : PW X (.BoolOp .And (b :: rest) pos) (tTB F W nb)) : PW X (.BoolOp .And (a :: b :: rest) pos) (tTB F W (na.andB nb)) :=
  (pw_and ha hb).imp fun σ H Q ⟨ρ, S, Z, sl, rh, h⟩ => ⟨ρ, S, Z, sl, rh, run_step sl h fun k k' H1 S1 s1 e sl1 h1 => by
    cases e
    cases k with
    | false => exact runG_val s1.2 h1 rfl
    | true => exact ⟨ρ, S1, Z, sl1, s1.2, h1⟩⟩
theorem w_or (ha : PT X a (tTB F W na)) (hb : PW X (.BoolOp .Or (b :: rest) pos) (tTB F W nb)) : PW X (.BoolOp .Or (a :: b :: rest) pos) (tTB F W (na.orB nb)) :=
  (pw_or ha hb).imp fun σ H Q ⟨ρ, S, Z, sl, rh, h⟩ => ⟨ρ, S, Z, sl, rh, run_step sl h fun k k' H1 S1 s1 e sl1 h1 => by
    cases e
    cases k with
    | true => exact runG_val s1.2 h1 rfl
    | false => exact ⟨ρ, S1, Z, sl1, s1.2, h1⟩⟩
theorem t_w {e : Expr} (h : PW X e (tTB F W na)) : PT X e (tTB F W na) := h.pt
theorem t_not (ha : PT X a (tTB F W na)) : PT X (.UnaryOp .Not a pos) (tTB F W na.notB) :=
  (pt_not ha).imp fun σ H Q ⟨ρ, S, Z, sl, rh, h⟩ => ⟨ρ, S, Z, sl, rh, run_step sl h fun k k' H1 S1 s1 e sl1 h1 => by
    cases e
    exact runG_val s1.2 h1 rfl⟩
theorem bool_split {α β : Type} {R : RP α β} {f : Bool → M α} {Q : β → Hp → Prop} {K : V → Hp → Prop} (sl : Sl F H S Z σ ρ) (h : runG F W R σ ρ H S Z (ma.bool.bind f) Q)
    (k : ∀ k H1 S1, Stp F H S Z H1 S1 → Sl F H1 S1 Z σ ρ → runG F W R σ ρ H1 S1 Z (f k) Q → K (.bl k) H1) : runG F W (rD F) σ ρ H S Z ma K :=
  ma.mono (fun d S1 h1 v H1 st r => by
    obtain ⟨b, e, q⟩ := h1
    rw [asB_eq e] at r
    cases r
    exact k b H1 S1 st (sl.mono st.1) (runG_from st q)) (fun _ _ h => h) h
theorem e_one {op} (h : PE X a (tE F W ma)) : PE X (.BoolOp op [a] pos) (tE F W ma) := pe_one h
theorem e_and (ha : PE X a (tE F W ma)) (hb : PE X (.BoolOp .And (b :: rest) pos) (tE F W mb)) : PE X (.BoolOp .And (a :: b :: rest) pos) (tE F W (ma.andV mb)) :=
  (pe_and ha hb).imp fun σ H Q ⟨ρ, S, Z, sl, rh, h⟩ => ⟨ρ, S, Z, sl, rh, bool_split sl h fun k H1 S1 s1 sl1 h1 => ⟨k, rfl, by
    cases k with
    | false => exact runG_val s1.2 h1 (.bl false)
    | true => exact ⟨ρ, S1, Z, sl1, s1.2, h1⟩⟩⟩
theorem e_or (ha : PE X a (tE F W ma)) (hb : PE X (.BoolOp .Or (b :: rest) pos) (tE F W mb)) : PE X (.BoolOp .Or (a :: b :: rest) pos) (tE F W (ma.orV mb)) :=
  (pe_or ha hb).imp fun σ H Q ⟨ρ, S, Z, sl, rh, h⟩ => ⟨ρ, S, Z, sl, rh, bool_split sl h fun k H1 S1 s1 sl1 h1 => ⟨k, rfl, by
    cases k with
    | true => exact runG_val s1.2 h1 (.bl true)
    | false => exact ⟨ρ, S1, Z, sl1, s1.2, h1⟩⟩⟩
theorem e_not (ha : PE X a (tE F W ma)) : PE X (.UnaryOp .Not a pos) (tE F W ma.notV) :=
  (pe_not ha).imp fun σ H Q ⟨ρ, S, Z, sl, rh, h⟩ => ⟨ρ, S, Z, sl, rh, bool_split sl h fun k H1 S1 s1 sl1 h1 => ⟨k, rfl, runG_val s1.2 h1 (.bl _)⟩⟩
theorem e_if (hc : PT X c (tTB F W na)) (ha : PE X a (tE F W ma)) (hb : PE X b (tE F W mb)) : PE X (.IfExp c a b pos) (tE F W (na.ite ma mb)) :=
  (pe_ifExp hc ha hb).imp fun σ H Q ⟨ρ, S, Z, sl, rh, h⟩ => ⟨ρ, S, Z, sl, rh, run_step sl h fun k k' H1 S1 s1 e sl1 h1 => by
    cases e
    cases k <;> exact ⟨ρ, S1, Z, sl1, s1.2, h1⟩⟩
/-! ### lists of arguments, displays -/
variable {es : List Expr} {t : M (List D)}
def M.nil : M (List D) := .val []
def M.cons (m : M D) (t : M (List D)) : M (List D) := m.bind fun d => t.bind fun ds => .val (d :: ds)
theorem a_nil : PA X [] (tL F W M.nil) := pa_nil.imp fun σ H Q ⟨ρ, S, Z, sl, rh, h⟩ => runG_val rh h .nil
theorem a_cons (ha : PE X a (tE F W ma)) (hr : PA X es (tL F W t)) (hs : starEach (a :: es) X.env = (false, eval a X.env) :: starEach es X.env := by rfl) : PA X (a :: es) (tL F W (.cons ma t)) :=
  (pa_cons ha hr hs).imp fun σ H Q ⟨ρ, S, Z, sl, rh, h⟩ => ⟨ρ, S, Z, sl, rh, run_step sl h fun v d H1 S1 s1 r sl1 h1 => ⟨ρ, S1, Z, sl1, s1.2, run_step sl1 h1 fun vs ds H2 S2 s2 rs sl2 h2 =>
    runG_val s2.2 h2 (.cons (r.mono s2.1) rs)⟩⟩
def M.tup (t : M (List D)) : M D := t.bind fun ds => .opt fun _ => if ds.length ≤ sizeLine then some (.tuple ds) else none
def M.lst (t : M (List D)) : M D := t.bind fun ds => .opt fun _ => if ds.length ≤ sizeLine then some (.list ds) else none
theorem e_tup {x1} (h : PA X es (tL F W t)) : PE X (.Tuple es x1 pos) (tE F W t.tup) :=
  (pe_tupF h).imp fun σ H Q ⟨ρ, S, Z, sl, rh, h⟩ => ⟨ρ, S, Z, sl, rh, run_step sl h fun vs ds H1 S1 s1 r sl1 h1 => by
    obtain ⟨d, e, q⟩ := h1
    split at e
    · rename_i hl
      cases e
      refine ⟨by rw [r.length]; exact hl, fun p its hp => q _ _ (.same s1.2 (same_upd hp)) (Rep.newT s1.2 hp r)⟩
    · cases e⟩
theorem e_lst (h : PA X es (tL F W t)) : PE X (.List es pos) (tE F W t.lst) :=
  (pe_lst h).imp fun σ H Q ⟨ρ, S, Z, sl, rh, h⟩ => ⟨ρ, S, Z, sl, rh, run_step sl h fun vs ds H1 S1 s1 r sl1 h1 => by
    obtain ⟨d, e, q⟩ := h1
    split at e
    · rename_i hl
      cases e
      refine ⟨by rw [r.length]; exact hl, fun p hp => q _ _ (.same s1.2 (same_upd hp)) (Rep.newL s1.2 hp r)⟩
    · cases e⟩
/-- a list that is a cell -/
def M.mkc (ds : List D) : M D := ⟨fun _ S Q _ => ds.length ≤ sizeLine ∧ ∀ p, S p = none → Q (refD p) (S.put p (.lst ds)), fun q _ h => ⟨h.1, fun p n => q _ _ (h.2 p n)⟩⟩
theorem e_lstc (h : PA X es (tL F W t)) : PE X (.List es pos) (tE F W (t.bind M.mkc)) :=
  (pe_lst h).imp fun σ H Q ⟨ρ, S, Z, sl, rh, h⟩ => ⟨ρ, S, Z, sl, rh, run_step sl h fun vs ds H1 S1 s1 r sl1 h1 => by
    refine ⟨by rw [r.length]; exact h1.1, fun p hp => h1.2 p (s1.2.free hp).1 _ _ ⟨ext_newC hp, s1.2.newC hp r⟩ (.ref p)⟩⟩
end
end EN

/-! == E5 == -/
set_option Elab.async false
set_option linter.all false
set_option maxRecDepth 100000
set_option maxHeartbeats 4000000
set_option autoImplicit false
/-! E5: iterators, loops, comprehensions, statements. -/
namespace EN
open PySem PySem.Spec PyProof.Rows L2

/-! ### what a piece of code needs of its place -/
structure Gd (F : Fx) (X : Cx) (W : WX) (k : Nat) : Prop where
  cx : CtxOk F X
  tk : L2N.Takes X W
  rm : Room k X.A
  ps : PassesOwn (model X.prog X.w) X.A X.env X.xe
abbrev W0 : WX := fun _ _ _ _ => False
theorem takes_no {X : Cx} : L2N.Takes X W0 := fun _ _ ⟨_, _, _, _, _, _, _, _, _, _, _, _, _, _, _, _, h⟩ => h.elim
theorem CtxOk.blk {F : Fx} {X : Cx} (c : CtxOk F X) (s : Shared) (H : Hp) (scope : Scope) (cenv : Env) (fp : List Addr) : CtxOk F (X.blk s H scope cenv fp) := ⟨c.hK, c.hmg, c.calm, c.nd, c.units⟩
theorem Gd.blk {F : Fx} {X : Cx} {W : WX} {k : Nat} (g : Gd F X W k) (s : Shared) (H : Hp) (scope : Scope) (cenv : Env) (fp : List Addr) : Gd F (X.blk s H scope cenv fp) W0 k := ⟨g.cx.blk s H scope cenv fp, takes_no, g.rm, PassesOwn.never⟩
theorem Gd.lo {F : Fx} {X : Cx} {W : WX} {j k : Nat} (g : Gd F X W k) (h : j ≤ k) : Gd F X W j := ⟨g.cx, g.tk, g.rm.mono h, g.ps⟩

section
variable {F : Fx} {X : Cx} {W : WX} {H H' H1 H2 : Hp} {S S' S1 S2 : Sto} {Z : Addr → Prop} {σ : L2.St} {ρ : Lo}
/-! ### iterators -/
def asL : D → Option (List D)
  | .list ds => some ds
  | .tuple ds => some ds
  | _ => none
def M.items (m : M D) : M (List D) := m.bind fun d => .opt fun _ => asL d
theorem itd_list {a : Addr} {ds : List D} (h : Rep F H1 S1 Z (.ref a) (.list ds)) (K : PySem.W.Frag) (zl : ∀ a, Z a → ∃ xs, H1 a = some (.lst xs)) : ItD F (rD F) H1 S1 Z (Itl K a) ds := fun H S Z' e z rh => by
  cases h.monoX zl e z with
  | lst h st r =>
    have hs : SqL K H a _ := .of h
    refine ⟨⟨_, hs, Nat.le_of_eq r.length⟩, fun i d hd => ?_⟩
    obtain ⟨v, h1, h2⟩ := r.get hd
    refine ⟨⟨_, v, hs, h1⟩, fun x H' hy => ?_⟩
    obtain ⟨e1, e2⟩ := hy
    have e3 := e2 _ hs
    rw [h1] at e3
    cases e3
    rw [e1]
    exact ⟨fun _ _ z => z, h2⟩
theorem itd_tup {a : Addr} {ds : List D} (h : Rep F H1 S1 Z (.ref a) (.tuple ds)) (K : PySem.W.Frag) (zl : ∀ a, Z a → ∃ xs, H1 a = some (.lst xs)) : ItD F (rD F) H1 S1 Z (Itt K a) ds := fun H S Z' e z rh => by
  cases h.monoX zl e z with
  | tup h st r =>
    have hs : SqT K H a _ := sqF h
    refine ⟨⟨_, hs, Nat.le_of_eq r.length⟩, fun i d hd => ?_⟩
    obtain ⟨v, h1, h2⟩ := r.get hd
    refine ⟨⟨_, v, hs, h1⟩, fun x H' hy => ?_⟩
    obtain ⟨e1, e2⟩ := hy
    have e3 := e2 _ hs
    rw [h1] at e3
    cases e3
    rw [e1]
    exact ⟨fun _ _ z => z, h2⟩
theorem itd_range {lo : Int} {n : Nat} : ItD F (rD F) H1 S1 Z (Itr lo n) ((List.range n).map fun i => PyData.int (lo + (i : Nat))) := fun H S Z' e z rh => by
  refine ⟨by show n ≤ _; simp, fun i d hd => ?_⟩
  rw [List.getElem?_map] at hd
  cases hr : (List.range n)[i]? with
  | none => rw [hr] at hd; cases hd
  | some j =>
    rw [hr] at hd
    obtain ⟨hi, e⟩ := List.getElem?_eq_some_iff.mp hr
    rw [List.getElem_range] at e
    rw [List.length_range] at hi
    subst e
    cases hd
    refine ⟨hi, fun x H' hy => ?_⟩
    obtain ⟨e1, e2⟩ := hy
    rw [e1, e2]
    exact ⟨fun _ _ z => z, .int _⟩
variable {tg l : Expr} {m : M D} {pos p : Pos} {t : M (List D)}
theorem i_seq (hl : PE X l (tE F W m)) : PI X tg l (tIt F (rD F) W m.items) := by
  constructor
  intro pins s σ H R I ⟨ρ, S, Z, sl, rh, h⟩
  have hrun := hl.run pins s σ H (fun x H1 => (∃ a, x = .ref a ∧ ((∃ xs, H1 a = some (.lst xs)) ∧ R (Itl X.K a) H1 ∨ (∃ its xs, H1 a = some (.frz (tupObj its) (.tup xs))) ∧ R (Itt X.K a) H1))) I
    ⟨ρ, S, Z, sl, rh, run_step sl h fun v d H1 S1 s1 r sl1 h1 => by
      obtain ⟨ds, e, q⟩ := h1
      cases r with
      | lst e1 e2 e3 => cases e; exact ⟨_, rfl, .inl ⟨⟨_, e1⟩, q _ _ (.refl s1.2) (itd_list (.lst e1 e2 e3) _ fun a q => (s1.2.zone a q).2)⟩⟩
      | tup e1 e2 e3 => cases e; exact ⟨_, rfl, .inr ⟨⟨_, _, e1⟩, q _ _ (.refl s1.2) (itd_tup (.tup e1 e2 e3) _ fun a q => (s1.2.zone a q).2)⟩⟩
      | _ => cases e⟩
  refine thn hrun fun v s1 hv => ?_
  obtain ⟨x, H1, I1, r1, a, rfl, hq⟩ := hv
  cases r1
  have ne : H1 s1.heap.objs.size = none := I1.hok.fresh (Nat.le_refl _)
  have fp : ∀ b ∈ [s1.heap.objs.size], FpOk X pins H1 b := fun b hb => by
    rw [List.mem_singleton.mp hb]
    exact I1.fpOk (Nat.le_refl _) ne
  rcases hq with ⟨⟨xs, e⟩, q⟩ | ⟨⟨its0, xs, e⟩, q⟩
  · obtain ⟨its, _, pl, _⟩ := I1.list (.of e)
    exact wpAny_pyIter_list pl.isList ⟨_, _, _, _, H1, rfl, I1.kept (t' := s1.toks) fun b o z => Heap.get?_push_of_some _ z, turn_list a _, ⟨_, Heap.get?_push_size _ rfl, rfl, rfl⟩, fp, q⟩
  · obtain ⟨its, _, pl, _⟩ := I1.tuple (sqF e)
    exact wpAny_pyIter_tuple (show s1.heap.IsTuple a its.toArray from pl) ⟨_, _, _, _, H1, rfl, I1.kept (t' := s1.toks) fun b o z => Heap.get?_push_of_some _ z, turn_tuple a _, ⟨_, Heap.get?_push_size _ rfl, rfl, rfl⟩, fp, q⟩
def rngL (i j : Int) : List D := (List.range (j - i).toNat).map fun k => .int (i + (k : Nat))
def rngD1 : List D → Option (List D)
  | [.int j] => if -(2 ^ 62) ≤ j ∧ j < 2 ^ 62 then some (rngL 0 j) else none
  | _ => none
def rngD2 : List D → Option (List D)
  | [.int i, .int j] => if -(2 ^ 62) ≤ i ∧ i < 2 ^ 62 ∧ -(2 ^ 62) ≤ j ∧ j < 2 ^ 62 then some (rngL i j) else none
  | _ => none
theorem rngD1_eq {ds es : List D} (h : rngD1 ds = some es) : ∃ j : Int, ds = [.int j] ∧ -(2 ^ 62) ≤ j ∧ j < 2 ^ 62 ∧ es = rngL 0 j := by
  unfold rngD1 at h
  split at h
  · split at h
    · rename_i q
      cases h
      exact ⟨_, rfl, q.1, q.2, rfl⟩
    · cases h
  · cases h
theorem rngD2_eq {ds es : List D} (h : rngD2 ds = some es) : ∃ i j : Int, ds = [.int i, .int j] ∧ (-(2 ^ 62) ≤ i ∧ i < 2 ^ 62 ∧ -(2 ^ 62) ≤ j ∧ j < 2 ^ 62) ∧ es = rngL i j := by
  unfold rngD2 at h
  split at h
  · split at h
    · rename_i q
      cases h
      exact ⟨_, _, rfl, q, rfl⟩
    · cases h
  · cases h
def M.rng1 (t : M (List D)) : M (List D) := t.bind fun ds => .opt fun _ => rngD1 ds
def M.rng2 (t : M (List D)) : M (List D) := t.bind fun ds => .opt fun _ => rngD2 ds
theorem i_range1 {a : Expr} (hg : Gl X "range") (hm : X.mg "range" = none) (ha : PA X [a] (tL F W t)) (hs : starEach [a] X.env = [(false, eval a X.env)] := by rfl) : PI X tg (.Call (.Name "range" p) [a] [] pos) (tIt F (rD F) W t.rng1) :=
  (pi_range1 hg hm ha hs).imp fun σ H R ⟨ρ, S, Z, sl, rh, h⟩ => ⟨ρ, S, Z, sl, rh, run_step sl h fun vs ds H1 S1 s1 r sl1 h1 => by
    obtain ⟨ds', e, q⟩ := h1
    obtain ⟨j, rfl, b1, b2, rfl⟩ := rngD1_eq e
    cases r with
    | cons r r2 =>
      cases r2
      cases r
      refine ⟨_, rfl, b1, b2, q _ _ (.refl s1.2) ?_⟩
      have := @itd_range F H1 S1 Z 0 (Int.toNat j)
      rw [rngL, Int.sub_zero]
      exact this⟩
theorem i_range2 {a b : Expr} (hg : Gl X "range") (hm : X.mg "range" = none) (ha : PA X [a, b] (tL F W t))
    (hs : starEach [a, b] X.env = [(false, eval a X.env), (false, eval b X.env)] := by rfl) (hs2 : starEach [b] X.env = [(false, eval b X.env)] := by rfl) : PI X tg (.Call (.Name "range" p) [a, b] [] pos) (tIt F (rD F) W t.rng2) :=
  (pi_range2 hg hm ha hs hs2).imp fun σ H R ⟨ρ, S, Z, sl, rh, h⟩ => ⟨ρ, S, Z, sl, rh, run_step sl h fun vs ds H1 S1 s1 r sl1 h1 => by
    obtain ⟨ds', e, q⟩ := h1
    obtain ⟨i, j, rfl, b1, rfl⟩ := rngD2_eq e
    cases r with
    | cons r r2 =>
      cases r2 with
      | cons r' r2 =>
      cases r2
      cases r
      cases r'
      exact ⟨_, _, rfl, b1, q _ _ (.refl s1.2) itd_range⟩⟩
/-- pairs of the items of two -/
def zipL (a b : List D) : List D := List.zipWith (fun x y => .tuple [x, y]) a b
def zipD : List D → Option (List D)
  | [.list a, .list b] => some (zipL a b)
  | [.tuple a, .tuple b] => some (zipL a b)
  | _ => none
theorem zip_get {a b : List D} {i : Nat} {d : D} (h : (zipL a b)[i]? = some d) : ∃ x y, a[i]? = some x ∧ b[i]? = some y ∧ d = .tuple [x, y] := by
  unfold zipL at h
  rw [List.getElem?_zipWith] at h
  split at h
  · cases h
    rename_i x y h1 h2
    exact ⟨_, _, h1, h2, rfl⟩
  · cases h
theorem rep_pair {T : Addr} {x y : V} {dx dy : D} (rh : RelH F H S Z) (n : H T = none) (rx : Rep F H S Z x dx) (ry : Rep F H S Z y dy) : Same H (upd H T (.tup [x, y])) ∧ RepP F (upd H T (.tup [x, y])) S Z (.ref T) (.tuple [dx, dy]) :=
  ⟨same_upd n, .inr ⟨_, _, _, rfl, rfl, upd_same, (RepA.cons rx (.cons ry .nil)).same (same_upd n)⟩⟩
theorem itd_zipL {a b : Addr} {ds es : List D} (h : Rep F H1 S1 Z (.ref a) (.list ds)) (h' : Rep F H1 S1 Z (.ref b) (.list es)) (K : PySem.W.Frag) (zl : ∀ a, Z a → ∃ xs, H1 a = some (.lst xs)) : ItD F (RepP F) H1 S1 Z (Itz K a b) (zipL ds es) := fun H S Z' e z rh => by
  cases h.monoX zl e z with
  | lst h st r =>
  cases h'.monoX zl e z with
  | lst h' st' r' =>
    have hs : SqL K H a _ := .of h
    have hs' : SqL K H b _ := .of h'
    refine ⟨⟨_, _, hs, hs', ?_⟩, fun i d hd => ?_⟩
    · rw [r.length, r'.length, zipL, List.length_zipWith]; omega
    · obtain ⟨x, y, e1, e2, rfl⟩ := zip_get hd
      obtain ⟨v, h1, h2⟩ := r.get e1
      obtain ⟨v', h1', h2'⟩ := r'.get e2
      refine ⟨⟨_, _, v, v', hs, hs', h1, h1'⟩, fun z H' hy => ?_⟩
      obtain ⟨T, x', y', rfl, nT, rfl, k1, k2⟩ := hy
      have k1 := (k1 _ hs).symm.trans h1
      have k2 := (k2 _ hs').symm.trans h1'
      cases k1; cases k2
      exact rep_pair rh nT h2 h2'
theorem itd_zipT {a b : Addr} {ds es : List D} (h : Rep F H1 S1 Z (.ref a) (.tuple ds)) (h' : Rep F H1 S1 Z (.ref b) (.tuple es)) (K : PySem.W.Frag) (zl : ∀ a, Z a → ∃ xs, H1 a = some (.lst xs)) : ItD F (RepP F) H1 S1 Z (RZ.ItzT K a b) (zipL ds es) := fun H S Z' e z rh => by
  cases h.monoX zl e z with
  | tup h st r =>
  cases h'.monoX zl e z with
  | tup h' st' r' =>
    have hs : SqT K H a _ := sqF h
    have hs' : SqT K H b _ := sqF h'
    refine ⟨⟨_, _, hs, hs', ?_⟩, fun i d hd => ?_⟩
    · rw [r.length, r'.length, zipL, List.length_zipWith]; omega
    · obtain ⟨x, y, e1, e2, rfl⟩ := zip_get hd
      obtain ⟨v, h1, h2⟩ := r.get e1
      obtain ⟨v', h1', h2'⟩ := r'.get e2
      refine ⟨⟨_, _, v, v', hs, hs', h1, h1'⟩, fun z H' hy => ?_⟩
      obtain ⟨T, x', y', rfl, nT, rfl, k1, k2⟩ := hy
      have k1 := (k1 _ hs).symm.trans h1
      have k2 := (k2 _ hs').symm.trans h1'
      cases k1; cases k2
      exact rep_pair rh nT h2 h2'
def M.zip (t : M (List D)) : M (List D) := t.bind fun ds => .opt fun _ => zipD ds
theorem zipD_cases {ds es : List D} (h : zipD ds = some es) : (∃ a b, ds = [.list a, .list b] ∧ es = zipL a b) ∨ (∃ a b, ds = [.tuple a, .tuple b] ∧ es = zipL a b) := by
  unfold zipD at h
  split at h
  · cases h; exact .inl ⟨_, _, rfl, rfl⟩
  · cases h; exact .inr ⟨_, _, rfl, rfl⟩
  · cases h
theorem i_zip {a b : Expr} {tpos : Pos} {elts : List Expr} {kk : Nat} (hg : Gl X "zip") (hm : X.mg "zip" = none) (ha : PA X [a, b] (tL F W t))
    (hs : starEach [a, b] X.env = (false, eval a X.env) :: starEach [b] X.env := by rfl) (hpl : (backTo pos (starEach [b] X.env)).any (·.1) = false := by rfl) : PI X (.Tuple elts kk tpos) (.Call (.Name "zip" p) [a, b] [] pos) (tIt F (RepP F) W t.zip) :=
  (RZ.pi_zipA hg hm ha hs hpl).imp fun σ H R ⟨ρ, S, Z, sl, rh, h⟩ => ⟨ρ, S, Z, sl, rh, run_step sl h fun vs ds H1 S1 s1 r sl1 h1 => by
    obtain ⟨ds', e, q⟩ := h1
    rcases zipD_cases e with ⟨a, b, rfl, rfl⟩ | ⟨a, b, rfl, rfl⟩
    · cases r with
      | cons r r2 =>
      cases r2 with
      | cons r' r2 =>
      cases r2
      cases r with
      | lst x1 x2 x3 =>
      cases r' with
      | lst y1 y2 y3 => exact ⟨_, _, _, _, rfl, .inl ⟨.of x1, .of y1, q _ _ (.refl s1.2) (itd_zipL (.lst x1 x2 x3) (.lst y1 y2 y3) _ fun a q => (s1.2.zone a q).2)⟩⟩
    · cases r with
      | cons r r2 =>
      cases r2 with
      | cons r' r2 =>
      cases r2
      cases r with
      | tup x1 x2 x3 =>
      cases r' with
      | tup y1 y2 y3 => exact ⟨_, _, _, _, rfl, .inr ⟨sqF x1, sqF y1, q _ _ (.refl s1.2) (itd_zipT (.tup x1 x2 x3) (.tup y1 y2 y3) _ fun a q => (s1.2.zone a q).2)⟩⟩⟩

/-! ### targets -/
abbrev Tg := D → Lo → Option Lo
def setAll : List Nat → List D → Lo → Option Lo
  | [], [], ρ => some ρ
  | i :: is, d :: ds, ρ => setAll is ds (ρ.set i (some d))
  | _, _, _ => none
def tgN (i : Nat) : Tg := fun d ρ => some (ρ.set i (some d))
def tgT (is : List Nat) : Tg := fun d ρ => match d with
  | .tuple ds => setAll is ds ρ
  | _ => none
def tgL (is : List Nat) : Tg := fun d ρ => match d with
  | .list ds => setAll is ds ρ
  | _ => none
/-- is: the slots that the target may write -/
def tgG (F : Fx) (P : RP D V) (is : List Nat) (tg : Tg) : TG := fun v σ H Q => ∃ ρ S Z d ρ', Sl F H S Z σ ρ ∧ RelH F H S Z ∧ P H S Z v d ∧ tg d ρ = some ρ' ∧ ∀ σ', Sl F H S Z σ' ρ' → (∀ vs, (∀ i ∈ is, i ∈ vs) → wipe σ' vs = wipe σ vs) → Q σ' H
theorem _root_.L2.PG.imp {e : Expr} {t t' : TG} (h : PG X e t) (i : ∀ v σ H Q, t' v σ H Q → t v σ H Q) : PG X e t' := ⟨fun pins s σ H v u Q I r q => h.run pins s σ H v u Q I r (i _ _ _ _ q)⟩
theorem wipe_get (σ : L2.St) (vs : List Nat) (j : Nat) : (wipe σ vs)[j]? = if j ∈ vs then (if j < σ.length then some none else none) else σ[j]? := by
  induction vs with
  | nil => simp [wipe]
  | cons v vs ih =>
    unfold wipe
    rw [List.getElem?_set]
    by_cases e : v = j
    · subst e
      rw [if_pos rfl, wipe_length]
      simp
    · rw [if_neg e, ih]
      have : (j ∈ v :: vs) ↔ j ∈ vs := by simp [Ne.symm e]
      simp only [this]
theorem wipe_set {σ : L2.St} {i : Nat} {v : Option V} {vs : List Nat} (h : i ∈ vs) : wipe (σ.set i v) vs = wipe σ vs := by
  apply List.ext_getElem?
  intro j
  rw [wipe_get, wipe_get, List.length_set]
  by_cases e : j ∈ vs
  · rw [if_pos e, if_pos e]
  · rw [if_neg e, if_neg e]
    have : i ≠ j := fun z => e (z ▸ h)
    rw [List.getElem?_set_ne this]
theorem wipe_idem (σ : L2.St) (vs : List Nat) : wipe (wipe σ vs) vs = wipe σ vs := by
  apply List.ext_getElem?
  intro j
  rw [wipe_get, wipe_length, wipe_get]
  split <;> rfl
def wipeD (ρ : Lo) : List Nat → Lo
  | [] => ρ
  | v :: vs => (wipeD ρ vs).set v none
theorem wipeD_length (ρ : Lo) : ∀ vs, (wipeD ρ vs).length = ρ.length
  | [] => rfl
  | v :: vs => by unfold wipeD; rw [List.length_set, wipeD_length ρ vs]
theorem wipeD_get (σ : Lo) (vs : List Nat) (j : Nat) : (wipeD σ vs)[j]? = if j ∈ vs then (if j < σ.length then some none else none) else σ[j]? := by
  induction vs with
  | nil => simp [wipeD]
  | cons v vs ih =>
    unfold wipeD
    rw [List.getElem?_set]
    by_cases e : v = j
    · subst e
      rw [if_pos rfl, wipeD_length]
      simp
    · rw [if_neg e, ih]
      have : (j ∈ v :: vs) ↔ j ∈ vs := by simp [Ne.symm e]
      simp only [this]
theorem Sl.wipe (s : Sl F H S Z σ ρ) (vs : List Nat) : Sl F H S Z (L2.wipe σ vs) (wipeD ρ vs) := by
  refine ⟨by rw [wipe_length, wipeD_length, s.len], fun j d h => ?_⟩
  rw [wipeD_get] at h
  rw [wipe_get]
  split at h
  · split at h <;> cases h
  · rename_i e
    rw [if_neg e]
    exact s.get j d h
theorem g_name {i : Nat} {x : Str} (hN : X.N.Nodup) (hi : X.N[i]? = some x) (hx : Loc X.env.scope x) (hf : X.fn x = true ∨ X.env.scope.names.lookup x = some .local := by first | exact .inl rfl | exact .inr rfl) : PG X (.Name x pos) (tgG F (rD F) [i] (tgN i)) :=
  (pg_name hN hi hx hf).imp fun v σ H Q ⟨ρ, S, Z, d, ρ', sl, rh, r, e, q⟩ => by
    cases e
    exact q _ (sl.set i r) fun vs h => wipe_set (h i (List.mem_singleton.mpr rfl))
def gNames : List Nat → TGs
  | [] => gNil
  | i :: is => gCons (gName i) (gNames is)
theorem gNames_ok {Q : L2.St → Hp → Prop} : ∀ {is : List Nat} {ds : List D} {xs : List V} {σ : L2.St} {ρ ρ' : Lo}, Sl F H S Z σ ρ → RepA F H S Z xs ds → setAll is ds ρ = some ρ' → (∀ σ', Sl F H S Z σ' ρ' → (∀ vs, (∀ i ∈ is, i ∈ vs) → wipe σ' vs = wipe σ vs) → Q σ' H) → gNames is xs σ H Q
  | [], [], _, _, _, _, sl, .nil, e, q => by
    cases e
    exact ⟨rfl, q _ sl fun _ _ => rfl⟩
  | i :: is, d :: ds, _, _, _, _, sl, .cons r t, e, q => by
    refine ⟨_, _, rfl, gNames_ok (is := is) (sl.set i r) t e fun σ' sl' w => q σ' sl' fun vs h => ?_⟩
    rw [w vs fun j hj => h j (List.mem_cons_of_mem _ hj), wipe_set (h i List.mem_cons_self)]
theorem gs_nil : PGs X [] (gNames []) := pgs_nil
theorem gs_cons {es : List Expr} {i : Nat} {is : List Nat} {x : Str} (hN : X.N.Nodup) (hi : X.N[i]? = some x) (hx : Loc X.env.scope x) (h2 : PGs X es (gNames is))
    (hf : X.fn x = true ∨ X.env.scope.names.lookup x = some .local := by first | exact .inl rfl | exact .inr rfl)
    (hs : (assignEach (.Name x pos :: es) X.env).map (·.2) = assign (.Name x pos) X.env :: (assignEach es X.env).map (·.2) := by rfl) : PGs X (.Name x pos :: es) (gNames (i :: is)) := pgs_cons (pg_name hN hi hx hf) h2 hs
theorem setAll_len : ∀ {is : List Nat} {ds : List D} {ρ ρ' : Lo}, setAll is ds ρ = some ρ' → ds.length = is.length
  | [], [], _, _, _ => rfl
  | [], _ :: _, _, _, e => nomatch e
  | _ :: _, [], _, _, e => nomatch e
  | _ :: is, _ :: ds, _, _, e => by rw [List.length_cons, List.length_cons, setAll_len (is := is) e]
theorem g_tupP {es : List Expr} {k : Nat} {is : List Nat} (hc : X.calm = true) (h : PGs X es (gNames is))
    (hn : (assignEach es X.env).length = is.length := by rfl) (hst : (assignEach es X.env).findIdx? (·.1) = none := by rfl) : PG X (.Tuple es k pos) (tgG F (RepP F) is (tgT is)) :=
  (pg_tup hc h hn hst).imp fun v σ H Q ⟨ρ, S, Z, d, ρ', sl, rh, r, e, q⟩ => by
    have key : ∀ {a xs ds}, SqT X.K H a xs → RepA F H S Z xs ds → setAll is ds ρ = some ρ' → v = .ref a → gTup X.K is.length (gNames is) v σ H Q := fun hs r e ev =>
      ⟨_, _, ev, hs, by rw [r.length, setAll_len e], gNames_ok sl r e q⟩
    rcases r with r | ⟨T, xs, ds, rfl, rfl, hT, r⟩
    · cases d with
      | tuple ds =>
        cases r with
        | tup h1 h2 h3 => exact key (sqF h1) h3 e rfl
      | _ => cases e
    · exact key (.of hT) r e rfl
theorem g_tup {es : List Expr} {k : Nat} {is : List Nat} (hc : X.calm = true) (h : PGs X es (gNames is))
    (hn : (assignEach es X.env).length = is.length := by rfl) (hst : (assignEach es X.env).findIdx? (·.1) = none := by rfl) : PG X (.Tuple es k pos) (tgG F (rD F) is (tgT is)) :=
  (g_tupP (F := F) hc h hn hst).imp fun v σ H Q ⟨ρ, S, Z, d, ρ', sl, rh, r, e, q⟩ => ⟨ρ, S, Z, d, ρ', sl, rh, .inl r, e, q⟩
theorem g_lst {es : List Expr} {k : Nat} {is : List Nat} (hc : X.calm = true) (h : PGs X es (gNames is))
    (hn : (assignEach es X.env).length = is.length := by rfl) (hst : (assignEach es X.env).findIdx? (·.1) = none := by rfl) : PG X (.Tuple es k pos) (tgG F (rD F) is (tgL is)) :=
  (pg_lst hc h hn hst).imp fun v σ H Q ⟨ρ, S, Z, d, ρ', sl, rh, r, e, q⟩ => by
    cases d with
    | list ds =>
      cases r with
      | lst h1 h2 h3 =>
        refine ⟨_, _, rfl, .of h1, ?_, gNames_ok sl h3 e q⟩
        rw [h3.length, setAll_len e]
    | _ => cases e
end
end EN

/-! == E5b == -/
set_option Elab.async false
set_option linter.all false
set_option maxRecDepth 100000
set_option maxHeartbeats 4000000
set_option autoImplicit false
/-! E5b: the list in the making. -/
namespace EN
open PySem PySem.Spec PyProof.Rows L2
section
variable {F : Fx} {H : Hp} {S : Sto} {Z : Addr → Prop} {p : Addr} {o : HO}
def withZ (Z : Addr → Prop) (p : Addr) : Addr → Prop := fun a => Z a ∨ a = p
-- a list in the making is written
mutual
theorem Rep.zup (z : Z p) (nt : ∀ o xs, H p ≠ some (.frz o (.tup xs))) (nd : ∀ xs, H p ≠ some (.dK xs)) : ∀ {v : V} {d : D}, Rep F H S Z v d → Rep F (upd H p o) S Z v d
  | _, _, .non => .non
  | _, _, .bl b => .bl b
  | _, _, .int i => .int i
  | _, _, .str x => .str x
  | _, _, .lst (a := a) h s r => .lst (by rw [upd_ne (show a ≠ p from fun e => s.2 (by rw [e]; exact z))]; exact h) s (RepA.zup z nt nd r)
  | _, _, .tup (a := a) h s r => .tup (by rw [upd_ne (show a ≠ p from fun e => nt _ _ (by rw [← e]; exact h))]; exact h) s (RepA.zup z nt nd r)
  | _, _, .ref a => .ref a
  | _, _, .fn h k => .fn h k
  | _, _, .dic (a := a) h s r => .dic (by rw [upd_ne (show a ≠ p from fun e => s.2 (by rw [e]; exact z))]; exact h) s (RepK.zup z nt nd r)
theorem RepA.zup (z : Z p) (nt : ∀ o xs, H p ≠ some (.frz o (.tup xs))) (nd : ∀ xs, H p ≠ some (.dK xs)) : ∀ {vs : List V} {ds : List D}, RepA F H S Z vs ds → RepA F (upd H p o) S Z vs ds
  | _, _, .nil => .nil
  | _, _, .cons r t => .cons (Rep.zup z nt nd r) (RepA.zup z nt nd t)
theorem RepK.zup (z : Z p) (nt : ∀ o xs, H p ≠ some (.frz o (.tup xs))) (nd : ∀ xs, H p ≠ some (.dK xs)) : ∀ {vs : List (Key × V)} {ds : List (D × D)}, RepK F H S Z vs ds → RepK F (upd H p o) S Z vs ds
  | _, _, .nil => .nil
  | _, _, .cons r t => .cons (Rep.zup z nt nd r) (RepK.zup z nt nd t)
end
-- a list comes into the making
mutual
theorem Rep.zopen (n : H p = none) : ∀ {v : V} {d : D}, Rep F H S Z v d → Rep F (upd H p o) S (withZ Z p) v d
  | _, _, .non => .non
  | _, _, .bl b => .bl b
  | _, _, .int i => .int i
  | _, _, .str x => .str x
  | _, _, .lst h s r => .lst (by rw [upd_ne (ne_of_none h n)]; exact h) ⟨s.1, fun q => q.elim s.2 (ne_of_none h n)⟩ (RepA.zopen n r)
  | _, _, .tup h s r => .tup (by rw [upd_ne (ne_of_none h n)]; exact h) s (RepA.zopen n r)
  | _, _, .ref a => .ref a
  | _, _, .fn h k => .fn h k
  | _, _, .dic h s r => .dic (by rw [upd_ne (ne_of_none h n)]; exact h) ⟨s.1, fun q => q.elim s.2 (ne_of_none h n)⟩ (RepK.zopen n r)
theorem RepA.zopen (n : H p = none) : ∀ {vs : List V} {ds : List D}, RepA F H S Z vs ds → RepA F (upd H p o) S (withZ Z p) vs ds
  | _, _, .nil => .nil
  | _, _, .cons r t => .cons (Rep.zopen n r) (RepA.zopen n t)
theorem RepK.zopen (n : H p = none) : ∀ {vs : List (Key × V)} {ds : List (D × D)}, RepK F H S Z vs ds → RepK F (upd H p o) S (withZ Z p) vs ds
  | _, _, .nil => .nil
  | _, _, .cons r t => .cons (Rep.zopen n r) (RepK.zopen n t)
end
theorem rd_ne {a : Addr} {u : HO} (r : Rd H a u) (ne : a ≠ p) : Rd (upd H p o) a u := by
  rcases r with r | ⟨o', r⟩
  · exact .inl (by rw [upd_ne ne]; exact r)
  · exact .inr ⟨o', by rw [upd_ne ne]; exact r⟩
theorem RelH.zup (h : RelH F H S Z) (z : Z p) (ys : List V) : RelH F (upd H p (.lst ys)) S Z := by
  obtain ⟨sp, xs, hp⟩ := h.zone p z
  have nt : ∀ o xs, H p ≠ some (.frz o (.tup xs)) := fun _ _ e => by rw [hp] at e; cases e
  have nd : ∀ xs, H p ≠ some (.dK xs) := fun _ e => by rw [hp] at e; cases e
  refine ⟨fun a c q => ?_, fun a q => ?_, fun a ns q => ?_, tabs_upd h.tabs fun u e => by rw [hp] at e; cases e; exact ⟨fun _ => nofun, fun c q z => by unfold LamX.CodeO at z; cases z⟩, fun r zz => ⟨?_, (h.cod r zz).2⟩, fun r hr => (h.cap r hr).zup z nt nd, fun x hx => ⟨(h.xds x hx).1.elim fun fs q => ⟨fs, by rw [upd_ne (show x ≠ p from fun e => by rw [e, hp] at q; cases q)]; exact q⟩, (h.xds x hx).2⟩⟩
  · have ne : a ≠ p := by rintro rfl; rw [sp] at q; cases q
    have k := h.cells a c q
    cases c with
    | lst ds =>
      obtain ⟨vs, h1, h2⟩ := k
      exact ⟨vs, by rw [upd_ne ne]; exact h1, h2.zup z nt nd⟩
    | ins C fs =>
      obtain ⟨Ca, dx, vfs, h0, h1, h2, h3, h4, h5⟩ := k
      have ne' : dx ≠ p := by rintro rfl; rw [hp] at h2; cases h2
      exact ⟨Ca, dx, vfs, h0, by rw [upd_ne ne]; exact h1, by rw [upd_ne ne']; exact h2, h3, h4, h5.zup z nt nd⟩
  · refine ⟨(h.zone a q).1, ?_⟩
    by_cases e : a = p
    · subst e
      exact ⟨ys, upd_same⟩
    · rw [upd_ne e]
      exact (h.zone a q).2
  · rcases h.scr a ns q with ⟨k, s⟩ | k
    · exact .inl ⟨rd_ne k fun e => s.2 (e ▸ z), s⟩
    · exact .inr k
  · have ne : r.1 ≠ p := by intro e; have := (h.cod r zz).1; rw [e, hp] at this; unfold LamX.CodeO at this; cases this
    rw [upd_ne ne]
    exact (h.cod r zz).1
theorem RelH.zopen (h : RelH F H S Z) (n : H p = none) (ys : List V) : RelH F (upd H p (.lst ys)) S (withZ Z p) := by
  refine ⟨fun a c q => ?_, fun a q => ?_, fun a ns q => ?_, h.tabs.ext (same_upd n), fun r z => ⟨same_upd n _ _ (h.cod r z).1, (h.cod r z).2⟩, fun r hr => (h.cap r hr).zopen n, fun x hx => ⟨(h.xds x hx).1.elim fun fs q => ⟨fs, same_upd n _ _ q⟩, (h.xds x hx).2⟩⟩
  · have k := h.cells a c q
    cases c with
    | lst ds =>
      obtain ⟨vs, h1, h2⟩ := k
      exact ⟨vs, by rw [upd_ne (ne_of_none h1 n)]; exact h1, h2.zopen n⟩
    | ins C fs =>
      obtain ⟨Ca, dx, vfs, h0, h1, h2, h3, h4, h5⟩ := k
      exact ⟨Ca, dx, vfs, h0, by rw [upd_ne (ne_of_none h1 n)]; exact h1, by rw [upd_ne (ne_of_none h2 n)]; exact h2, h3, h4, h5.zopen n⟩
  · rcases q with q | rfl
    · obtain ⟨h1, xs, h2⟩ := h.zone a q
      exact ⟨h1, xs, by rw [upd_ne (ne_of_none h2 n)]; exact h2⟩
    · exact ⟨(h.free n).1, ys, upd_same⟩
  · rcases h.scr a ns q with ⟨k, s⟩ | k
    · have ne : a ≠ p := by
        rcases k with k | ⟨o, k⟩
        · exact ne_of_none k n
        · exact ne_of_none k n
      exact .inl ⟨rd_ne k ne, s.1, fun q => q.elim s.2 ne⟩
    · exact .inr k
theorem RelH.zclose (h : RelH F H S (withZ Z p)) : RelH F H S Z := by
  refine ⟨fun a c q => ?_, fun a q => h.zone a (.inl q), fun a ns q => ?_, h.tabs, h.cod, fun r hr => (h.cap r hr).less (fun _ _ _ s => s) fun a q => .inl q, h.xds⟩
  · have k := h.cells a c q
    cases c with
    | lst ds =>
      obtain ⟨vs, h1, h2⟩ := k
      exact ⟨vs, h1, h2.less (fun _ _ _ s => s) fun a q => .inl q⟩
    | ins C fs =>
      obtain ⟨Ca, dx, vfs, h0, h1, h2, h3, h4, h5⟩ := k
      exact ⟨Ca, dx, vfs, h0, h1, h2, h3, h4, h5.less (fun _ _ _ s => s) fun a q => .inl q⟩
  · rcases h.scr a ns q with ⟨k, s⟩ | k
    · exact .inl ⟨k, s.1, fun q => s.2 (.inl q)⟩
    · exact .inr k
theorem Rep.zclose {v : V} {d : D} (h : Rep F H S (withZ Z p) v d) : Rep F H S Z v d := h.less (fun _ _ _ s => s) fun a q => .inl q
theorem RepA.zclose {v : List V} {d : List D} (h : RepA F H S (withZ Z p) v d) : RepA F H S Z v d := h.less (fun _ _ _ s => s) fun a q => .inl q
theorem Sl.zopen {σ : L2.St} {ρ : Lo} (h : Sl F H S Z σ ρ) (n : H p = none) : Sl F (upd H p o) S (withZ Z p) σ ρ := ⟨h.len, fun i d e => (h.get i d e).elim fun v q => ⟨v, q.1, q.2.zopen n⟩⟩
end
end EN

/-! == E5c == -/
set_option Elab.async false
set_option linter.all false
set_option maxRecDepth 100000
set_option maxHeartbeats 4000000
set_option autoImplicit false
/-! E5c: comprehensions. -/
namespace EN
open PySem PySem.Spec PyProof.Rows L2
def noE : QX := fun _ _ => False
/-- the items one after the other, each put behind acc; K: what is wished of the whole -/
def lcG (vs : List Nat) (tg : Tg) (mt : M Bool) (me : M D) (K : List D → Sto → Prop) : List D → List D → Lo → Sto → Prop
  | [], acc, _, S => K acc S
  | d :: ds, acc, ρ, S => ∃ ρ', tg d (wipeD ρ vs) = some ρ' ∧ mt.run ρ' S (fun k S1 => cond k (me.run ρ' S1 (fun y S2 => acc.length < sizeLine ∧ lcG vs tg mt me K ds (acc ++ [y]) ρ S2) noE) (lcG vs tg mt me K ds acc ρ S1)) noE
theorem lcG_mono {vs : List Nat} {tg : Tg} {mt : M Bool} {me : M D} {K K' : List D → Sto → Prop} (h : ∀ a S, K a S → K' a S) : ∀ {ds acc : List D} {ρ : Lo} {S : Sto}, lcG vs tg mt me K ds acc ρ S → lcG vs tg mt me K' ds acc ρ S
  | [], _, _, _, q => h _ _ q
  | d :: ds, acc, ρ, S, ⟨ρ', e, q⟩ => ⟨ρ', e, mt.mono (fun k S1 q => by
      cases k with
      | false => exact lcG_mono (ds := ds) h q
      | true => exact me.mono (fun y S2 q => ⟨q.1, lcG_mono (ds := ds) h q.2⟩) (fun _ _ z => z) q) (fun _ _ z => z) q⟩
def M.lc (mi : M (List D)) (vs : List Nat) (tg : Tg) (mt : M Bool) (me : M D) : M D :=
  ⟨fun ρ S Q E => mi.run ρ S (fun ds S1 => lcG vs tg mt me (fun acc S2 => Q (.list acc) S2) ds [] ρ S1) E, fun q e h => mi.mono (fun _ _ k => lcG_mono (fun _ _ k => q _ _ k) k) e h⟩
/-- two for's -/
def lcG2 (vs : List Nat) (tg : Tg) (mi1 : M (List D)) (vs1 : List Nat) (tg1 : Tg) (mt : M Bool) (me : M D) (K : List D → Sto → Prop) : List D → List D → Lo → Sto → Prop
  | [], acc, _, S => K acc S
  | d :: ds, acc, ρ, S => ∃ ρ', tg d (wipeD ρ vs) = some ρ' ∧ mi1.run ρ' S (fun es S1 => lcG vs1 tg1 mt me (fun acc' S2 => lcG2 vs tg mi1 vs1 tg1 mt me K ds acc' ρ S2) es acc ρ' S1) noE
theorem lcG2_mono {vs vs1 : List Nat} {tg tg1 : Tg} {mi1 : M (List D)} {mt : M Bool} {me : M D} {K K' : List D → Sto → Prop} (h : ∀ a S, K a S → K' a S) : ∀ {ds acc : List D} {ρ : Lo} {S : Sto}, lcG2 vs tg mi1 vs1 tg1 mt me K ds acc ρ S → lcG2 vs tg mi1 vs1 tg1 mt me K' ds acc ρ S
  | [], _, _, _, q => h _ _ q
  | d :: ds, acc, ρ, S, ⟨ρ', e, q⟩ => ⟨ρ', e, mi1.mono (fun es S1 q => lcG_mono (fun acc' S2 q => lcG2_mono (ds := ds) h q) q) (fun _ _ z => z) q⟩
def M.lc2 (mi : M (List D)) (vs : List Nat) (tg : Tg) (mi1 : M (List D)) (vs1 : List Nat) (tg1 : Tg) (mt : M Bool) (me : M D) : M D :=
  ⟨fun ρ S Q E => mi.run ρ S (fun ds S1 => lcG2 vs tg mi1 vs1 tg1 mt me (fun acc S2 => Q (.list acc) S2) ds [] ρ S1) E, fun q e h => mi.mono (fun _ _ k => lcG2_mono (fun _ _ k => q _ _ k) k) e h⟩
section
variable {F : Fx} {X : Cx} {W : WX} {H H' H1 H2 : Hp} {S S' S1 S2 : Sto} {Z : Addr → Prop} {σ : L2.St} {ρ : Lo}
/-- where the turns stand: the list D in the making -/
structure Mid (F : Fx) (H1 : Hp) (S1 : Sto) (Z : Addr → Prop) (D : Addr) (acc : List EN.D) (H : Hp) (S : Sto) : Prop where
  st : Ext H1 S1 H S
  rh : RelH F H S (withZ Z D)
  at_ : ∃ xs, H D = some (.lst xs) ∧ RepA F H S (withZ Z D) xs acc
  nz : ¬ Z D
  n : H1 D = none
theorem Mid.start (rh : RelH F H1 S1 Z) {D : Addr} (n : H1 D = none) : Mid F H1 S1 Z D [] (upd H1 D (.lst [])) S1 :=
  ⟨Ext.same (same_upd n), rh.zopen n [], ⟨[], upd_same, .nil⟩, (rh.free n).2, n⟩
theorem Mid.on {D : Addr} {acc : List EN.D} (m : Mid F H1 S1 Z D acc H S) (s : Stp F H S (withZ Z D) H' S') : Mid F H1 S1 Z D acc H' S' := by
  obtain ⟨xs, h1, h2⟩ := m.at_
  exact ⟨m.st.trans s.1, s.2, ⟨xs, (s.1 D _ h1 (m.rh.zone D (.inr rfl)).1 (fun _ => nofun)).1, h2.mono s.1⟩, m.nz, m.n⟩
theorem Mid.put {D : Addr} {acc : List EN.D} (m : Mid F H1 S1 Z D acc H S) {v : V} {d : EN.D} (r : Rep F H S (withZ Z D) v d) :
    ∃ xs, H D = some (.lst xs) ∧ xs.length = acc.length ∧ Mid F H1 S1 Z D (acc ++ [d]) (upd H D (.lst (xs ++ [v]))) S := by
  obtain ⟨xs, h1, h2⟩ := m.at_
  have nt : ∀ o xs, H D ≠ some (.frz o (.tup xs)) := fun _ _ e => by rw [h1] at e; cases e
  have nd : ∀ xs, H D ≠ some (.dK xs) := fun _ e => by rw [h1] at e; cases e
  refine ⟨xs, h1, h2.length, fun a o h q nn => ?_, m.rh.zup (.inr rfl) _, ⟨_, upd_same, (h2.append (.one r)).zup (.inr rfl) nt nd⟩, m.nz, m.n⟩
  obtain ⟨k1, k2⟩ := m.st a o h q nn
  exact ⟨by rw [upd_ne (ne_of_none h m.n)]; exact k1, k2⟩
theorem Mid.stop {D : Addr} {acc : List EN.D} (m : Mid F H1 S1 Z D acc H S) : Stp F H1 S1 Z H S ∧ Rep F H S Z (.ref D) (.list acc) := by
  obtain ⟨xs, h1, h2⟩ := m.at_
  exact ⟨⟨m.st, m.rh.zclose⟩, .lst h1 ⟨(m.rh.zone D (.inr rfl)).1, m.nz⟩ h2.zclose⟩
theorem Sl.monoX {Z' : Addr → Prop} (zl : ∀ a, Z a → ∃ xs, H a = some (.lst xs)) (e : ExtX Z H S H' S') (z : ∀ a, Z' a → Z a ∨ H a = none) (s : Sl F H S Z σ ρ) : Sl F H' S' Z' σ ρ :=
  ⟨s.len, fun i d h => (s.get i d h).elim fun v q => ⟨v, q.1, q.2.monoX zl e z⟩⟩
theorem ExtX.updD {Hb : Hp} {Sb : Sto} {Zb : Addr → Prop} {p : Addr} {o : HO} (q : Zb p ∨ Hb p = none) (e : ExtX Zb Hb Sb H S) : ExtX Zb Hb Sb (upd H p o) S := fun a u h s nz t => by
  have ne : a ≠ p := by
    rintro rfl
    rcases q with q | q
    · exact nz q
    · rw [h] at q; cases q
  rw [upd_ne ne]
  exact e a u h s nz t
theorem lc_turns {vs is : List Nat} {tg : Tg} {mt : M Bool} {me : M EN.D} {K : List EN.D → Sto → Prop} {D : Addr} {J : It} {ds acc0 : List EN.D} {Hb Ha : Hp} {Sb Sa : Sto} {Zb : Addr → Prop} (his : ∀ i ∈ is, i ∈ vs)
    (zlb : ∀ a, Zb a → ∃ xs, Hb a = some (.lst xs)) {P : RP EN.D V} (it : ItD F P Hb Sb Zb J ds) (zb : ∀ a, withZ Z D a → Zb a ∨ Hb a = none) (slb : Sl F Hb Sb Zb σ ρ)
    (m0 : Mid F H1 S1 Z D acc0 Ha Sa) (eb : ExtX Zb Hb Sb Ha Sa) (h : lcG vs tg mt me K ds acc0 ρ Sa) {Fin : Hp → Prop} (fin : ∀ acc H S, Mid F H1 S1 Z D acc H S → ExtX Zb Hb Sb H S → K acc S → Fin H) :
    ∃ Wt : Nat → Nat → Hp → Prop, (∃ m, Wt 0 m Ha) ∧ ∀ i m H, Wt i m H → (J.stop i H ∧ Fin H) ∨ (J.go i H ∧ ∃ Nx : Hp → Prop, (∀ H', Nx H' → ∃ m', m' < m ∧ Wt (i + 1) m' H') ∧
      ∀ x H', J.yld i H x H' → tgG F P is tg x (wipe σ vs) H' fun σ2 H2 => wipe σ2 vs = wipe σ vs ∧ tTB F W0 mt σ2 H2 fun b H3 =>
        if b = true then tE F W0 me σ2 H3 fun y H4 => ∃ acc, H4 D = some (.lst acc) ∧ acc.length < sizeLine ∧ Nx (upd H4 D (.lst (acc ++ [y]))) else Nx H3) := by
  refine ⟨fun i m H => i + m = ds.length ∧ ∃ acc S, Mid F H1 S1 Z D acc H S ∧ ExtX Zb Hb Sb H S ∧ lcG vs tg mt me K (ds.drop i) acc ρ S, ⟨ds.length, by omega, acc0, Sa, m0, eb, h⟩, ?_⟩
  rintro i m H ⟨em, acc, S, mid, ex, hl⟩
  have itn := it H S _ ex zb mid.rh
  by_cases hi : i < ds.length
  · have e := List.drop_eq_getElem_cons hi
    rw [e] at hl
    obtain ⟨ρ', et, hl⟩ := hl
    obtain ⟨go, yl⟩ := itn.2 i _ (List.getElem?_eq_getElem hi)
    refine .inr ⟨go, fun H' => ∃ acc S, Mid F H1 S1 Z D acc H' S ∧ ExtX Zb Hb Sb H' S ∧ lcG vs tg mt me K (ds.drop (i + 1)) acc ρ S, fun H' ⟨acc, S, a, b, c⟩ => ⟨m - 1, by omega, by omega, acc, S, a, b, c⟩, fun x H' hy => ?_⟩
    obtain ⟨sm, rx⟩ := yl x H' hy
    have s0 : Stp F H S (withZ Z D) H' S := .same mid.rh sm
    have slw := ((slb.monoX zlb ex zb).mono s0.1).wipe vs
    refine ⟨_, S, _, _, ρ', slw, s0.2, rx, et, fun σ' sl' w => ⟨by rw [w vs his, wipe_idem], ρ', S, _, sl', s0.2, mt.mono (fun k S3 hk b H3 st3 eb' => ?_) (fun _ _ z => z.elim) hl⟩⟩
    subst eb'
    have m3 := (mid.on s0).on st3
    have ex3 := (ex.trans (.of s0.1)).trans (.of (Z := Zb) st3.1)
    cases b with
    | false => exact if_false_of Bool.noConfusion ⟨acc, S3, m3, ex3, hk⟩
    | true =>
      refine if_true_of rfl ⟨ρ', S3, _, sl'.mono st3.1, st3.2, me.mono (fun y S4 hk v H4 st4 ry => ?_) (fun _ _ z => z.elim) hk⟩
      have m4 := m3.on st4
      have ex4 := ex3.trans (.of (Z := Zb) st4.1)
      obtain ⟨xs, e1, e2, m5⟩ := m4.put ry
      exact ⟨xs, e1, by rw [e2]; exact hk.1, _, S4, m5, ex4.updD (zb D (.inr rfl)), hk.2⟩
  · have ei : i = ds.length := by omega
    subst ei
    rw [List.drop_length] at hl
    exact .inl ⟨itn.1, fin acc H S mid ex hl⟩
variable {P P1 : RP D V} {tge iter elt : Expr} {ifs : List Expr} {scope : Scope} {own : List (Str × Nat)} {pos : Pos} {mi : M (List D)} {tg : Tg} {is : List Nat} {mt : M Bool} {me : M D}
theorem lcT (his : ∀ i ∈ is, i ∈ own.map (·.2)) : ∀ σ H Q, tE F W (M.lc mi (own.map (·.2)) tg mt me) σ H Q → tLc (tIt F P W mi) (tgG F P is tg) (tTB F W0 mt) (tE F W0 me) (own.map (·.2)) σ H Q :=
  fun σ H Q ⟨ρ, S, Z, sl, rh, h⟩ => ⟨ρ, S, Z, sl, rh, mi.mono (fun ds S1 hk J H1 st it D nD => by
    have zl : ∀ a, Z a → ∃ xs, H1 a = some (.lst xs) := fun a q => (st.2.zone a q).2
    have zb : ∀ a, withZ Z D a → Z a ∨ H1 a = none := fun a q => q.imp id fun e => by rw [e]; exact nD
    exact lc_turns his zl it zb (sl.mono st.1) (Mid.start st.2 nD) (.of (Ext.same (same_upd nD))) hk fun acc H S mid ex hK => by
      have := mid.stop
      exact hK _ _ (st.trans this.1) this.2) (fun _ _ z => z) h⟩
theorem t_yes {X : Cx} : PTs X [] (tTB F W (.val true)) := ⟨fun pins s σ H Q I ⟨ρ, S, Z, sl, rh, h⟩ => pts_nil.run pins s σ H Q I (runG_val rh h rfl)⟩
theorem e_lc (cx : CtxOk F X) (his : ∀ i ∈ is, i ∈ own.map (·.2)) (hi : PI X tge iter (tIt F P W mi)) (ok : BlkOk X.N X.env.scope scope own)
    (hg : ∀ (s : Shared) (H : Hp) (C : Addr) (cl : List (Str × Addr)) (fp : List Addr), PG (X.blk s H scope (compEnvC scope cl C X.env) fp) tge (tgG F P is tg))
    (ht : ∀ (s : Shared) (H : Hp) (C : Addr) (cl : List (Str × Addr)) (fp : List Addr), PTs (X.blk s H scope (compEnvC scope cl C X.env) fp) ifs (tTB F W0 mt))
    (he : ∀ (s : Shared) (H : Hp) (C : Addr) (cl : List (Str × Addr)) (fp : List Addr), PE (X.blk s H scope (compEnvC scope cl C X.env) fp) elt (tE F W0 me)) (hs : ∀ x, foldedSetIterable iter X.env x = pure x := by intro _; rfl) :
    PE X (.ListComp elt [⟨tge, iter, ifs, 0⟩] scope pos) (tE F W (M.lc mi (own.map (·.2)) tg mt me)) :=
  (pe_lc cx.calm cx.nd hi ok hg ht he hs).imp (lcT his)
variable {tge1 iter1 : Expr} {vs1 is1 : List Nat} {mi1 : M (List D)} {tg1 : Tg}
theorem yes_of {σ : L2.St} {H : Hp} {Q : Bool → Hp → Prop} (h : Q true H) : tYes σ H Q := h
theorem lcT2 (his : ∀ i ∈ is, i ∈ own.map (·.2)) (his1 : ∀ i ∈ is1, i ∈ vs1) : ∀ σ H Q, tE F W (M.lc2 mi (own.map (·.2)) tg mi1 vs1 tg1 mt me) σ H Q →
    tLc2 (tIt F P W mi) (tgG F P is tg) tYes (tIt F P1 W0 mi1) (tgG F P1 is1 tg1) (tTB F W0 mt) (tE F W0 me) (own.map (·.2)) vs1 σ H Q :=
  fun σ H Q ⟨ρ, S, Z, sl, rh, h⟩ => ⟨ρ, S, Z, sl, rh, mi.mono (fun ds S1 hk J H1 st it D nD => by
    have zl : ∀ a, Z a → ∃ xs, H1 a = some (.lst xs) := fun a q => (st.2.zone a q).2
    have zb : ∀ a, withZ Z D a → Z a ∨ H1 a = none := fun a q => q.imp id fun e => by rw [e]; exact nD
    refine ⟨fun i m H => i + m = ds.length ∧ ∃ acc S, Mid F H1 S1 Z D acc H S ∧ ExtX Z H1 S1 H S ∧ lcG2 (own.map (·.2)) tg mi1 vs1 tg1 mt me (fun acc S2 => ∀ b H', Stp F _ _ Z H' S2 → rD F H' S2 Z b (.list acc) → Q b H') (ds.drop i) acc ρ S, ⟨ds.length, by omega, [], S1, Mid.start st.2 nD, .of (Ext.same (same_upd nD)), hk⟩, ?_⟩
    rintro i m H ⟨em, acc, S, mid, ex, hl⟩
    have itn := it H S _ ex zb mid.rh
    by_cases hi : i < ds.length
    · have e := List.drop_eq_getElem_cons hi
      rw [e] at hl
      obtain ⟨ρ', et, hl⟩ := hl
      obtain ⟨go, yl⟩ := itn.2 i _ (List.getElem?_eq_getElem hi)
      refine .inr ⟨go, fun H' => ∃ acc S, Mid F H1 S1 Z D acc H' S ∧ ExtX Z H1 S1 H' S ∧ lcG2 (own.map (·.2)) tg mi1 vs1 tg1 mt me (fun acc S2 => ∀ b H', Stp F _ _ Z H' S2 → rD F H' S2 Z b (.list acc) → Q b H') (ds.drop (i + 1)) acc ρ S, fun H' ⟨acc, S, a, b, c⟩ => ⟨m - 1, by omega, by omega, acc, S, a, b, c⟩, fun x H' hy => ?_⟩
      obtain ⟨sm, rx⟩ := yl x H' hy
      have s0 : Stp F H S (withZ Z D) H' S := .same mid.rh sm
      have slw := (((sl.mono st.1).monoX zl ex zb).mono s0.1).wipe (own.map (·.2))
      refine ⟨_, S, _, _, ρ', slw, s0.2, rx, et, fun σ' sl' w => ⟨by rw [w _ his, wipe_idem], ?_⟩⟩
      refine yes_of (if_true_of rfl ?_)
      refine ⟨ρ', S, _, sl', s0.2, mi1.mono (fun es S3 hk J1 H3 st3 it1 => ?_) (fun _ _ z => z.elim) hl⟩
      have m3 := (mid.on s0).on st3
      have ex3 := (ex.trans (.of s0.1)).trans (.of (Z := Z) st3.1)
      exact lc_turns (Zb := withZ Z D) his1 (fun a q => (st3.2.zone a q).2) it1 (fun a q => .inl q) (sl'.mono st3.1) m3 (fun a o h s _ _ => ⟨h, s⟩) hk fun acc' H4 S4 m4 ex4 hK => by
        refine ⟨acc', S4, m4, fun a o h s nz nt => ?_, hK⟩
        obtain ⟨k1, k2⟩ := ex3 a o h s nz nt
        refine ex4 a o k1 k2 (fun q => q.elim nz fun e => ?_) nt
        rw [e, nD] at h
        cases h
    · have ei : i = ds.length := by omega
      subst ei
      rw [List.drop_length] at hl
      have := mid.stop
      exact .inl ⟨itn.1, hl _ _ (st.trans this.1) this.2⟩) (fun _ _ z => z) h⟩
theorem e_lc2 (cx : CtxOk F X) (his : ∀ i ∈ is, i ∈ own.map (·.2)) (his1 : ∀ i ∈ is1, i ∈ vs1) (hi : PI X tge iter (tIt F P W mi)) (ok : BlkOk X.N X.env.scope scope own) (hv : ∀ i ∈ vs1, i ∈ own.map (·.2))
    (hg : ∀ (s : Shared) (H : Hp) (C : Addr) (cl : List (Str × Addr)) (fp : List Addr), PG (X.blk s H scope (compEnvC scope cl C X.env) fp) tge (tgG F P is tg))
    (hi1 : ∀ (s : Shared) (H : Hp) (C : Addr) (cl : List (Str × Addr)) (fp : List Addr), PI (X.blk s H scope (compEnvC scope cl C X.env) fp) tge1 iter1 (tIt F P1 W0 mi1))
    (hg1 : ∀ (s : Shared) (H : Hp) (C : Addr) (cl : List (Str × Addr)) (fp : List Addr), PG (X.blk s H scope (compEnvC scope cl C X.env) fp) tge1 (tgG F P1 is1 tg1))
    (ht1 : ∀ (s : Shared) (H : Hp) (C : Addr) (cl : List (Str × Addr)) (fp : List Addr), PTs (X.blk s H scope (compEnvC scope cl C X.env) fp) ifs (tTB F W0 mt))
    (he : ∀ (s : Shared) (H : Hp) (C : Addr) (cl : List (Str × Addr)) (fp : List Addr), PE (X.blk s H scope (compEnvC scope cl C X.env) fp) elt (tE F W0 me)) (hs : ∀ x, foldedSetIterable iter X.env x = pure x := by intro _; rfl)
    (hs1 : ∀ env x, foldedSetIterable iter1 env x = pure x := by intro _ _; rfl) :
    PE X (.ListComp elt [⟨tge, iter, [], 0⟩, ⟨tge1, iter1, ifs, 0⟩] scope pos) (tE F W (M.lc2 mi (own.map (·.2)) tg mi1 vs1 tg1 mt me)) :=
  (pe_lc2 cx.calm cx.nd hi ok hv hg (fun _ _ _ _ _ => pts_nil) hi1 hg1 ht1 he hs hs1).imp (lcT2 his his1)
end
end EN

/-! == E5d == -/
set_option Elab.async false
set_option linter.all false
set_option maxRecDepth 100000
set_option maxHeartbeats 4000000
set_option autoImplicit false
/-! E5d: statements. -/
namespace EN
open PySem PySem.Spec PyProof.Rows L2
structure MS where
  run : Lo → Sto → (Lo → Sto → Prop) → (D → Sto → Prop) → (Str → Lo → Sto → Prop) → Prop
  mono : ∀ {ρ : Lo} {S : Sto} {nx nx' : Lo → Sto → Prop} {rt rt' : D → Sto → Prop} {xs xs' : Str → Lo → Sto → Prop}, (∀ ρ S, nx ρ S → nx' ρ S) → (∀ d S, rt d S → rt' d S) → (∀ x ρ S, xs x ρ S → xs' x ρ S) → run ρ S nx rt xs → run ρ S nx' rt' xs'
namespace MS
def skip : MS := ⟨fun ρ S nx _ _ => nx ρ S, fun h _ _ q => h _ _ q⟩
def seq (a b : MS) : MS := ⟨fun ρ S nx rt xs => a.run ρ S (fun ρ1 S1 => b.run ρ1 S1 nx rt xs) rt xs, fun h1 h2 h3 q => a.mono (fun _ _ q => b.mono h1 h2 h3 q) h2 h3 q⟩
def ret (m : M D) : MS := ⟨fun ρ S _ rt xs => m.run ρ S rt (fun x S1 => xs x ρ S1), fun _ h2 h3 q => m.mono h2 (fun x S => h3 x _ S) q⟩
def asg (m : M D) (tg : Tg) : MS := ⟨fun ρ S nx _ xs => m.run ρ S (fun d S1 => ∃ ρ', tg d ρ = some ρ' ∧ nx ρ' S1) (fun x S1 => xs x ρ S1), fun h1 _ h3 q => m.mono (fun _ _ ⟨ρ', e, q⟩ => ⟨ρ', e, h1 _ _ q⟩) (fun x S => h3 x _ S) q⟩
def par (t : M (List D)) (i j : Nat) : MS := ⟨fun ρ S nx _ xs => t.run ρ S (fun ds S1 => ∃ a b, ds = [a, b] ∧ nx ((ρ.set i (some a)).set j (some b)) S1) (fun x S1 => xs x ρ S1), fun h1 _ h3 q => t.mono (fun _ _ ⟨a, b, e, q⟩ => ⟨a, b, e, h1 _ _ q⟩) (fun x S => h3 x _ S) q⟩
def expr (m : M D) : MS := ⟨fun ρ S nx _ xs => m.run ρ S (fun _ S1 => nx ρ S1) (fun x S1 => xs x ρ S1), fun h1 _ h3 q => m.mono (fun _ _ q => h1 _ _ q) (fun x S => h3 x _ S) q⟩
def ifS (c : M Bool) (a b : MS) : MS := ⟨fun ρ S nx rt xs => c.run ρ S (fun k S1 => cond k (a.run ρ S1 nx rt xs) (b.run ρ S1 nx rt xs)) (fun x S1 => xs x ρ S1), fun h1 h2 h3 q => c.mono (fun k S1 q => by
  cases k
  · exact b.mono h1 h2 h3 q
  · exact a.mono h1 h2 h3 q) (fun x S => h3 x _ S) q⟩
def raise (x : Str) : MS := ⟨fun ρ S _ _ xs => xs x ρ S, fun _ _ h3 q => h3 _ _ _ q⟩
/-- a cell is from now on data -/
def freeze (i : Nat) : MS := ⟨fun ρ S nx _ _ => ∃ (a : Addr) (ds : List D), ρ[i]? = some (some (refD a)) ∧ S a = some (.lst ds) ∧ nx (ρ.set i (some (.list ds))) (S.del a), fun h1 _ _ ⟨a, ds, e, e2, q⟩ => ⟨a, ds, e, e2, h1 _ _ q⟩⟩
def forL (tg : Tg) (body : MS) (nx : Lo → Sto → Prop) (rt : D → Sto → Prop) (xs : Str → Lo → Sto → Prop) : List D → Lo → Sto → Prop
  | [], ρ, S => nx ρ S
  | d :: ds, ρ, S => ∃ ρ', tg d ρ = some ρ' ∧ body.run ρ' S (fun ρ2 S2 => forL tg body nx rt xs ds ρ2 S2) rt xs
theorem forL_mono {tg : Tg} {body : MS} {nx nx' : Lo → Sto → Prop} {rt rt' : D → Sto → Prop} {xs xs' : Str → Lo → Sto → Prop} (h1 : ∀ ρ S, nx ρ S → nx' ρ S) (h2 : ∀ d S, rt d S → rt' d S) (h3 : ∀ x ρ S, xs x ρ S → xs' x ρ S) : ∀ {ds : List D} {ρ : Lo} {S : Sto}, forL tg body nx rt xs ds ρ S → forL tg body nx' rt' xs' ds ρ S
  | [], _, _, q => h1 _ _ q
  | d :: ds, _, _, ⟨ρ', e, q⟩ => ⟨ρ', e, body.mono (fun _ _ q => forL_mono (ds := ds) h1 h2 h3 q) h2 h3 q⟩
def forS (mi : M (List D)) (tg : Tg) (body : MS) : MS := ⟨fun ρ S nx rt xs => mi.run ρ S (fun ds S1 => forL tg body nx rt xs ds ρ S1) (fun x S1 => xs x ρ S1), fun h1 h2 h3 q => mi.mono (fun _ _ q => forL_mono h1 h2 h3 q) (fun x S => h3 x _ S) q⟩
def whileL (c : M Bool) (body : MS) (nx : Lo → Sto → Prop) (rt : D → Sto → Prop) (xs : Str → Lo → Sto → Prop) : Nat → Lo → Sto → Prop
  | 0, _, _ => False
  | n + 1, ρ, S => c.run ρ S (fun k S1 => cond k (body.run ρ S1 (fun ρ2 S2 => whileL c body nx rt xs n ρ2 S2) rt xs) (nx ρ S1)) (fun x S1 => xs x ρ S1)
theorem whileL_mono {c : M Bool} {body : MS} {nx nx' : Lo → Sto → Prop} {rt rt' : D → Sto → Prop} {xs xs' : Str → Lo → Sto → Prop} (h1 : ∀ ρ S, nx ρ S → nx' ρ S) (h2 : ∀ d S, rt d S → rt' d S) (h3 : ∀ x ρ S, xs x ρ S → xs' x ρ S) : ∀ {n : Nat} {ρ : Lo} {S : Sto}, whileL c body nx rt xs n ρ S → whileL c body nx' rt' xs' n ρ S
  | 0, _, _, q => q
  | n + 1, _, _, q => c.mono (fun k S1 q => by
      cases k
      · exact h1 _ _ q
      · exact body.mono (fun _ _ q => whileL_mono (n := n) h1 h2 h3 q) h2 h3 q) (fun x S => h3 x _ S) q
def whileS (c : M Bool) (body : MS) : MS := ⟨fun ρ S nx rt xs => ∃ n, whileL c body nx rt xs n ρ S, fun h1 h2 h3 ⟨n, q⟩ => ⟨n, whileL_mono h1 h2 h3 q⟩⟩
/-- o[k] = value, o a cell -/
def setIx (m mo mk : M D) : MS := ⟨fun ρ S nx _ xs => m.run ρ S (fun v S1 => mo.run ρ S1 (fun o S2 => mk.run ρ S2 (fun k S3 => ∃ (a : Addr) (ds : List D) (i : Int) (j : Nat), o = refD a ∧ S3 a = some (.lst ds) ∧ k = .int i ∧ ixN ds.length i = some j ∧ nx ρ (S3.put a (.lst (ds.set j v)))) (fun x S1 => xs x ρ S1)) (fun x S1 => xs x ρ S1)) (fun x S1 => xs x ρ S1),
  fun h1 _ h3 q => m.mono (fun _ _ q => mo.mono (fun _ _ q => mk.mono (fun _ _ ⟨a, ds, i, j, e1, e2, e3, e4, q⟩ => ⟨a, ds, i, j, e1, e2, e3, e4, h1 _ _ q⟩) (fun x S => h3 x _ S) q) (fun x S => h3 x _ S) q) (fun x S => h3 x _ S) q⟩
end MS
section
variable {F : Fx} {X : Cx} {W : WX} {H H' H1 H2 : Hp} {S S' S1 S2 : Sto} {Z : Addr → Prop} {σ σ' : L2.St} {ρ ρ' : Lo} {D : Ends}
def nxS (F : Fx) (D : Ends) (H : Hp) (S : Sto) (Z : Addr → Prop) : Lo → Sto → Prop := fun ρ' S' => ∀ σ' H', Stp F H S Z H' S' → Sl F H' S' Z σ' ρ' → D.nx σ' H'
def rtS (F : Fx) (D : Ends) (H : Hp) (S : Sto) (Z : Addr → Prop) : EN.D → Sto → Prop := fun d S' => ∀ v H', Stp F H S Z H' S' → Rep F H' S' Z v d → D.rt v H'
def xsS (F : Fx) (W : WX) (H : Hp) (S : Sto) (Z : Addr → Prop) : Str → Lo → Sto → Prop := fun x ρ' S' => ∀ (C : Addr) (d : Option Addr) σ' H', F.mg x = some (.ref C) → Stp F H S Z H' S' → Sl F H' S' Z σ' ρ' → DOk H' d → W (.ref C) d σ' H'
def runS (F : Fx) (W : WX) (D : Ends) (H : Hp) (S : Sto) (Z : Addr → Prop) (ρ : Lo) (ms : MS) : Prop := ms.run ρ S (nxS F D H S Z) (rtS F D H S Z) (xsS F W H S Z)
def tS (F : Fx) (W : WX) (ms : MS) : TS := fun D σ H => ∃ ρ S Z, Sl F H S Z σ ρ ∧ RelH F H S Z ∧ runS F W D H S Z ρ ms
theorem runS_from {ms : MS} (a : Stp F H S Z H1 S1) (h : ms.run ρ S1 (nxS F D H S Z) (rtS F D H S Z) (xsS F W H S Z)) : runS F W D H1 S1 Z ρ ms :=
  ms.mono (fun _ _ k σ' H' st sl => k σ' H' (a.trans st) sl) (fun _ _ k v H' st r => k v H' (a.trans st) r) (fun _ _ _ k C d σ' H' e st sl => k C d σ' H' e (a.trans st) sl) h
theorem xs_xW (sl : Sl F H S Z σ ρ) {x : Str} {S' : Sto} (h : xsS F W H S Z x ρ S') : xW F W σ H S Z x S' := fun C d H' e st => h C d σ H' e st (sl.mono st.1)
theorem exprS {α β : Type} {R : RP α β} {m : M α} {Q : α → Sto → Prop} {K : β → Hp → Prop} (sl : Sl F H S Z σ ρ) (h : m.run ρ S Q (fun x S1 => xsS F W H S Z x ρ S1))
    (k : ∀ v d H1 S1, Stp F H S Z H1 S1 → R H1 S1 Z v d → Sl F H1 S1 Z σ ρ → Q d S1 → K v H1) : runG F W R σ ρ H S Z m K :=
  m.mono (fun a S1 q b H1 st r => k b a H1 S1 st r (sl.mono st.1) q) (fun _ _ q => xs_xW sl q) h
variable {st : Stmt} {rest body els : List Stmt} {a b : MS} {e : Expr} {m mo mk : M EN.D} {c : M Bool} {pos : Pos} {t : M (List EN.D)}
theorem ss_nil : PSs X [] (tS F W .skip) := pss_nil.imp fun D σ H ⟨ρ, S, Z, sl, rh, h⟩ => h σ H (.refl rh) sl
theorem ss_one (h1 : PS X st (tS F W a)) : PSs X [st] (tS F W a) := pss_one h1
theorem ss_cons (h1 : PS X st (tS F W a)) (h2 : PSs X rest (tS F W b)) : PSs X (st :: rest) (tS F W (a.seq b)) :=
  (pss_cons h1 h2).imp fun D σ H ⟨ρ, S, Z, sl, rh, h⟩ => ⟨ρ, S, Z, sl, rh, a.mono (fun ρ1 S1 k σ1 H1 st1 sl1 => ⟨ρ1, S1, Z, sl1, st1.2, runS_from st1 k⟩) (fun _ _ k => k) (fun _ _ _ k => k) h⟩
theorem rep_refD {v : V} {a : Addr} (r : Rep F H S Z v (refD a)) : v = .ref a := by
  generalize hd : refD a = d at r
  cases r with
  | ref b =>
    unfold refD at hd
    simp only [PyData.dict.injEq, List.cons.injEq, Prod.mk.injEq, PyData.int.injEq, and_true, true_and] at hd
    exact congrArg V.ref (Int.ofNat.inj hd).symm
  | dic h1 h2 h3 =>
    cases h3 with
    | nil => cases hd
    | @cons k v kvs d ds r t =>
      unfold refD at hd
      simp only [PyData.dict.injEq, List.cons.injEq, Prod.mk.injEq] at hd
      cases k <;> simp [keyD] at hd
  | _ => cases hd
/-- a step that nobody sees -/
theorem ss_freeze {i : Nat} (h : PSs X rest (tS F W b)) : PSs X rest (tS F W ((MS.freeze i).seq b)) :=
  h.imp fun D σ H ⟨ρ, S, Z, sl, rh, a, ds, e, e2, q⟩ => by
    have rh' := rh.freeze a fun _ _ _ _ _ _ => trivial
    have r := Rep.frozen rh e2
    have st : Stp F H S Z H (S.del a) := ⟨ext_del, rh'⟩
    have sl' := sl.mono st.1
    obtain ⟨v, hv, rv⟩ := sl.get i _ e
    have ev := rep_refD rv
    subst ev
    refine ⟨_, _, Z, ⟨by rw [List.length_set]; exact sl'.len, fun j d hj => ?_⟩, rh', runS_from st q⟩
    rw [List.getElem?_set] at hj
    split at hj
    · rename_i eij
      subst eij
      split at hj
      · cases hj
        exact ⟨_, hv, r⟩
      · cases hj
    · exact sl'.get j d hj
theorem s_ret (he : PE X e (tE F W m)) : PS X (.Return (some e) pos) (tS F W (.ret m)) :=
  (ps_ret he).imp fun D σ H ⟨ρ, S, Z, sl, rh, h⟩ => ⟨ρ, S, Z, sl, rh, exprS sl h fun v d H1 S1 st r sl1 q => q v H1 st r⟩
theorem s_retN : PS X (.Return none pos) (tS F W (.ret (.val .none))) :=
  ps_retN.imp fun D σ H ⟨ρ, S, Z, sl, rh, h⟩ => h .non H (.refl rh) .non
theorem s_pass : PS X (.Pass pos) (tS F W .skip) := ps_pass.imp fun D σ H ⟨ρ, S, Z, sl, rh, h⟩ => h σ H (.refl rh) sl
theorem s_expr (he : PE X e (tE F W m)) (hs : swapsWith e none pos.line X.env = pure false := by rfl) : PS X (.Expr e pos) (tS F W (.expr m)) :=
  (ps_expr he hs).imp fun D σ H ⟨ρ, S, Z, sl, rh, h⟩ => ⟨ρ, S, Z, sl, rh, exprS sl h fun v d H1 S1 st r sl1 q => q σ H1 st sl1⟩
theorem s_if {ce : Expr} (hc : PT X ce (tTB F W c)) (ha : PSs X body (tS F W a)) (hb : PSs X els (tS F W b)) : PS X (.If ce body els pos) (tS F W (.ifS c a b)) :=
  (ps_if hc ha hb).imp fun D σ H ⟨ρ, S, Z, sl, rh, h⟩ => ⟨ρ, S, Z, sl, rh, exprS sl h fun k k' H1 S1 st e sl1 q => by
    cases e
    cases k with
    | true => exact if_true_of rfl ⟨ρ, S1, Z, sl1, st.2, runS_from st q⟩
    | false => exact if_false_of Bool.noConfusion ⟨ρ, S1, Z, sl1, st.2, runS_from st q⟩⟩
theorem s_asg {tge : Expr} {is : List Nat} {tg : Tg} (he : PE X e (tE F W m)) (hg : PG X tge (tgG F (rD F) is tg)) (hs : swapsWithSole [tge] e pos.line X.env = pure false := by rfl) (hw : swappedStores [tge] e X.env = pure none := by rfl) (h1 : (assignEach [tge] X.env).map (·.2) = [assign tge X.env] := by rfl) : PS X (.Assign [tge] e pos) (tS F W (.asg m tg)) :=
  (ps_asg he hg hs hw h1).imp fun D σ H ⟨ρ, S, Z, sl, rh, h⟩ => ⟨ρ, S, Z, sl, rh, exprS sl h fun v d H1 S1 st r sl1 q => by
    obtain ⟨ρ', e, q⟩ := q
    exact ⟨ρ, S1, Z, d, ρ', sl1, st.2, r, e, fun σ' sl' _ => q σ' H1 st sl'⟩⟩
theorem s_set {i : Nat} {x : Str} {p' : Pos} (cx : CtxOk F X) (hi : X.N[i]? = some x) (hx : Loc X.env.scope x) (he : PE X e (tE F W m)) (hs : swapsWith e (some (.Name x p')) pos.line X.env = pure false := by rfl)
    (hf : X.fn x = true ∨ X.env.scope.names.lookup x = some .local := by first | exact .inl rfl | exact .inr rfl) : PS X (.Assign [.Name x p'] e pos) (tS F W (.asg m (tgN i))) :=
  (ps_set cx.nd hi hx he hs hf).imp fun D σ H ⟨ρ, S, Z, sl, rh, h⟩ => ⟨ρ, S, Z, sl, rh, exprS sl h fun v d H1 S1 st r sl1 q => by
    obtain ⟨ρ', e, q⟩ := q
    cases e
    exact q _ H1 st (sl1.set i r)⟩
theorem s_par {i j : Nat} {x y : Str} {ea eb : Expr} {px py pt : Pos} {kt k2 pt2} (cx : CtxOk F X) (hi : X.N[i]? = some x) (hj : X.N[j]? = some y) (hij : i ≠ j)
    (hx : X.env.scope.names.lookup x = some .local) (hy : X.env.scope.names.lookup y = some .local) (ha : PA X [ea, eb] (tL F W t))
    (hw : swappedStores [.Tuple [.Name x px, .Name y py] kt pt] (.Tuple [ea, eb] k2 pt2) X.env = pure (some [x, y]))
    (hs : swapsWithSole [.Tuple [.Name x px, .Name y py] kt pt] (.Tuple [ea, eb] k2 pt2) pos.line X.env = pure false := by rfl) :
    PS X (.Assign [.Tuple [.Name x px, .Name y py] kt pt] (.Tuple [ea, eb] k2 pt2) pos) (tS F W (.par t i j)) :=
  (ps_par cx.calm cx.nd hi hj hij hx hy ha hw hs).imp fun D σ H ⟨ρ, S, Z, sl, rh, h⟩ => ⟨ρ, S, Z, sl, rh, exprS sl h fun vs ds H1 S1 st r sl1 q => by
    obtain ⟨a, b, rfl, q⟩ := q
    cases r with
    | cons r r2 =>
    cases r2 with
    | cons r' r2 =>
    cases r2
    exact ⟨_, _, rfl, q _ H1 st ((sl1.set i r).set j r')⟩⟩
/-- a class of errors made of a text -/
structure ExcC (F : Fx) (X : Cx) (x : Str) : Prop where
  ex : ∃ (C : Addr) (bmB : List Value) (B newId initId : String), ExcBaseFacts B newId initId bmB ∧ PySem.W.excIn X.K C bmB newId = true ∧ X.mg x = some (.ref C) ∧ PySem.W.keepIn X.K (.ref C) = true ∧ (Raises X (.ref C))
theorem s_raise {x m : Str} {j : Nat} {p p2 p3 : Pos} (cx : CtxOk F X) (tk : L2N.Takes X W) (ec : ExcC F X x) (hg : Gl X x) (hdb : (x == ("__debug__" : Str)) = false := by decide) : PS X (.Raise (some (.Call (.Name x p) [.Constant (.str m) j p2] [] p3)) none pos) (tS F W (.raise x)) := by
  obtain ⟨C, bmB, B, nI, iI, f, q, gC, kC, r⟩ := ec.ex
  exact (L2N.ps_raise cx.calm tk (L2N.pmk_own f q gC kC r hg hdb)).imp fun D σ H ⟨ρ, S, Z, sl, rh, h⟩ => h C none σ H (by rw [← cx.hmg]; exact gC) (.refl rh) sl (fun _ z => nomatch z)
theorem s_for {tge iter : Expr} {is : List Nat} {tg : Tg} {mi : M (List EN.D)} {P : RP EN.D V} (cx : CtxOk F X) (hp : PassesOwn (model X.prog X.w) X.A X.env X.xe) (hi : PI X tge iter (tIt F P W mi)) (hg : PG X tge (tgG F P is tg)) (hb : PSs X body (tS F W b))
    (hs : ∀ x, foldedSetIterable iter X.env x = pure x := by intro _; rfl) : PS X (.For tge iter body [] pos) (tS F W (.forS mi tg b)) :=
  (ps_for hp cx.calm hi hg hb hs).imp fun D σ H ⟨ρ, S, Z, sl, rh, h⟩ => ⟨ρ, S, Z, sl, rh, exprS sl h fun J ds H1 S1 st it sl1 q => by
    have zl : ∀ a, Z a → ∃ xs, H1 a = some (.lst xs) := fun a q => (st.2.zone a q).2
    refine ⟨fun i m σ H' => i + m = ds.length ∧ ∃ ρ' S', Stp F H1 S1 Z H' S' ∧ Sl F H' S' Z σ ρ' ∧ MS.forL tg b (nxS F D _ _ Z) (rtS F D _ _ Z) (xsS F W _ _ Z) (ds.drop i) ρ' S', ⟨ds.length, by omega, ρ, S1, .refl st.2, sl1, q⟩, ?_⟩
    rintro i m σ2 H2 ⟨em, ρ2, S2, st2, sl2, hl⟩
    have itn := it H2 S2 Z (.of st2.1) (fun a q => .inl q) st2.2
    by_cases hi : i < ds.length
    · have e := List.drop_eq_getElem_cons hi
      rw [e] at hl
      obtain ⟨ρ', et, hl⟩ := hl
      obtain ⟨go, yl⟩ := itn.2 i _ (List.getElem?_eq_getElem hi)
      refine .inr ⟨go, fun σ3 H3 => ∃ ρ' S', Stp F H1 S1 Z H3 S' ∧ Sl F H3 S' Z σ3 ρ' ∧ MS.forL tg b (nxS F D _ _ Z) (rtS F D _ _ Z) (xsS F W _ _ Z) (ds.drop (i + 1)) ρ' S', fun σ3 H3 ⟨a, b, c⟩ => ⟨m - 1, by omega, by omega, a, b, c⟩, fun x H3 hy => ?_⟩
      obtain ⟨sm, rx⟩ := yl x H3 hy
      have s0 : Stp F H2 S2 Z H3 S2 := .same st2.2 sm
      refine ⟨ρ2, S2, Z, _, ρ', sl2.mono s0.1, s0.2, rx, et, fun σ' sl' _ => ⟨ρ', S2, Z, sl', s0.2, ?_⟩⟩
      have st3 := st2.trans s0
      exact b.mono (fun ρ4 S4 k σ4 H4 st4 sl4 => ⟨ρ4, S4, st3.trans st4, sl4, k⟩) (fun d S4 k v H4 st4 r => k v H4 ((st.trans st3).trans st4) r) (fun x ρ4 S4 k C d σ4 H4 e st4 sl4 => k C d σ4 H4 e ((st.trans st3).trans st4) sl4) hl
    · have ei : i = ds.length := by omega
      subst ei
      rw [List.drop_length] at hl
      exact .inl ⟨itn.1, hl σ2 H2 (st.trans st2) sl2⟩⟩
theorem s_while {ce : Expr} (hp : PassesOwn (model X.prog X.w) X.A X.env X.xe) (hc : PT X ce (tTB F W c)) (hb : PSs X body (tS F W b)) : PS X (.While ce body [] pos) (tS F W (.whileS c b)) :=
  (ps_while hp hc hb).imp fun D σ H ⟨ρ, S, Z, sl, rh, n, h⟩ => by
    refine ⟨fun m σ H' => ∃ ρ' S', Stp F H S Z H' S' ∧ Sl F H' S' Z σ ρ' ∧ MS.whileL c b (nxS F D H S Z) (rtS F D H S Z) (xsS F W H S Z) m ρ' S', ⟨n, ρ, S, .refl rh, sl, h⟩, ?_⟩
    rintro m σ1 H1 ⟨ρ1, S1, st1, sl1, hl⟩
    cases m with
    | zero => exact hl.elim
    | succ m =>
      refine ⟨ρ1, S1, Z, sl1, st1.2, ?_⟩
      refine c.mono (fun k S2 q b' H2 st2 e => ?_) (fun x S2 q C d H2 e st2 => q C d σ1 H2 e (st1.trans st2) (sl1.mono st2.1)) hl
      subst e
      have sl2 := sl1.mono st2.1
      cases b' with
      | false => exact if_false_of Bool.noConfusion (q σ1 H2 (st1.trans st2) sl2)
      | true =>
        refine if_true_of rfl ⟨fun σ' H' => ∃ ρ' S', Stp F H S Z H' S' ∧ Sl F H' S' Z σ' ρ' ∧ MS.whileL c b (nxS F D H S Z) (rtS F D H S Z) (xsS F W H S Z) m ρ' S', fun σ' H' q => ⟨m, Nat.lt_succ_self m, q⟩, ρ1, S2, Z, sl2, st2.2, ?_⟩
        have st3 := st1.trans st2
        exact b.mono (fun ρ4 S4 k σ4 H4 st4 sl4 => ⟨ρ4, S4, st3.trans st4, sl4, k⟩) (fun d S4 k v H4 st4 r => k v H4 (st3.trans st4) r) (fun x ρ4 S4 k C d σ4 H4 e st4 sl4 => k C d σ4 H4 e (st3.trans st4) sl4) q
end
end EN

/-! == E6 == -/
set_option Elab.async false
set_option linter.all false
set_option maxRecDepth 100000
set_option maxHeartbeats 4000000
set_option autoImplicit false
/-! E6: calls of built-in things, items, slices, methods. -/
namespace EN
open PySem PySem.Spec PyProof.Rows L2
section
variable {F : Fx} {X : Cx} {W : WX} {H H' H1 H2 : Hp} {S S' S1 S2 : Sto} {Z : Addr → Prop} {σ : L2.St} {ρ : Lo}
variable {e o a b : Expr} {es : List Expr} {m mo mv ma mb : M D} {t : M (List D)} {pos p : Pos} {x : Str}
/-! ### calls -/
def M.call1 (r : Bool) (g : D → Option D) (m : M D) : M D := m.bind fun d => .opt fun S => g (rdB r S d)
theorem call1T {f : D → Option D} (r : Bool) : ∀ σ H Q, tE F W (M.call1 r f m) σ H Q → tCB (fun xs H Q => ∃ S Z x dx d, xs = [x] ∧ RelH F H S Z ∧ RepT F H S Z x dx ∧ f dx = some d ∧ ∀ v H', Same H H' → Rep F H' S Z v d → Q v H') (tCons (tE F W m) tNil) σ H Q :=
  fun σ H Q ⟨ρ, S, Z, sl, rh, h⟩ => ⟨ρ, S, Z, sl, rh, run_step sl h fun v d H1 S1 s1 r1 sl1 ⟨d', e, q⟩ => ⟨S1, Z, v, _, d', rfl, s1.2, rdB_rep s1.2 r r1, e, fun v H' sm r2 => q v H' (.same s1.2 sm) r2⟩⟩
theorem e_callB {id : String} {f : D → Option D} (r : Bool) (hc : Call1 F X (.builtin id) f) (hg : Gl X x) (hm : X.mg x = none) (hv : bootBuiltins x = some (.builtin id)) (ha : PE X a (tE F W m)) (hn : x ≠ "__name__" := by decide) (hdb : (x == ("__debug__" : Str)) = false := by decide)
    (he : starEach [a] X.env = (false, eval a X.env) :: starEach [] X.env := by rfl) (hpl : (backTo pos (starEach [] X.env)).any (·.1) = false := by rfl) : PE X (.Call (.Name x p) [a] [] pos) (tE F W (M.call1 r f m)) :=
  (pe_callB hc hg hm hv (pa_cons ha pa_nil he) hn hdb (he := he)).imp (call1T r)
theorem e_callTy {T : String} {f : D → Option D} (r : Bool) (hc : Call1 F X (.type T) f) (hg : Gl X x) (hm : X.mg x = none) (hv : bootBuiltins x = some (.type T)) (ha : PE X a (tE F W m)) (hn : x ≠ "__name__" := by decide) (hdb : (x == ("__debug__" : Str)) = false := by decide)
    (he : starEach [a] X.env = (false, eval a X.env) :: starEach [] X.env := by rfl) (hpl : (backTo pos (starEach [] X.env)).any (·.1) = false := by rfl) : PE X (.Call (.Name x p) [a] [] pos) (tE F W (M.call1 r f m)) :=
  (pe_callTy hc hg hm hv (pa_cons ha pa_nil he) hn hdb (he := he)).imp (call1T r)
/-- sorted(set(x)) -/
theorem e_sset {x2 : Str} {p2 pos2 : Pos} (cx : CtxOk F X) (r : Bool) (hg : Gl X x) (hm : X.mg x = none) (hv : bootBuiltins x = some (.builtin "sorted")) (hg2 : Gl X x2) (hm2 : X.mg x2 = none) (hv2 : bootBuiltins x2 = some (.type "set")) (ha : PE X a (tE F W m))
    (hn : x ≠ "__name__" := by decide) (hdb : (x == ("__debug__" : Str)) = false := by decide) (hn2 : x2 ≠ "__name__" := by decide) (hdb2 : (x2 == ("__debug__" : Str)) = false := by decide)
    (he : starEach [a] X.env = (false, eval a X.env) :: starEach [] X.env := by rfl)
    (he2 : starEach [.Call (.Name x2 p2) [a] [] pos2] X.env = (false, eval (.Call (.Name x2 p2) [a] [] pos2) X.env) :: starEach [] X.env := by rfl) :
    PE X (.Call (.Name x p) [.Call (.Name x2 p2) [a] [] pos2] [] pos) (tE F W (M.call1 r ssetD m)) :=
  (pe_callB (sorted_made_ok cx) hg hm hv (pa_cons (pe_callTy (set_made_ok cx) hg2 hm2 hv2 (pa_cons ha pa_nil he) hn2 hdb2 (he := he)) pa_nil he2) hn hdb (he := he2)).imp
    fun σ H Q ⟨ρ, S, Z, sl, rh, h⟩ => ⟨ρ, S, Z, sl, rh, run_step sl h fun v d H1 S1 s1 r1 sl1 ⟨d', e, q⟩ => ⟨S1, Z, v, _, d', rfl, s1.2, rdB_rep s1.2 r r1, e, fun p H2 sm made => by
      have s2 : Stp F H1 S1 Z H2 S1 := .same s1.2 sm
      exact ⟨S1, Z, p, d', rfl, s2.2, made, fun v H3 sm3 r3 => q v H3 (s2.trans (.same s2.2 sm3)) r3⟩⟩⟩
def minD2 : List D → Option D
  | [.int i, .int j] => some (.int (if j < i then j else i))
  | _ => none
def maxD2 : List D → Option D
  | [.int i, .int j] => some (.int (if j > i then j else i))
  | _ => none
def M.callN (g : List D → Option D) (t : M (List D)) : M D := t.bind fun ds => .opt fun _ => g ds
theorem two_ints {vs : List V} {i j : Int} (r : RepA F H S Z vs [.int i, .int j]) : vs = [.int i, .int j] := by
  cases r with
  | cons r r2 =>
  cases r2 with
  | cons r' r2 =>
  cases r2
  cases r
  cases r'
  rfl
theorem minD2_eq {ds : List D} {d : D} (h : minD2 ds = some d) : ∃ i j : Int, ds = [.int i, .int j] ∧ d = .int (if j < i then j else i) := by
  unfold minD2 at h
  split at h
  · cases h; exact ⟨_, _, rfl, rfl⟩
  · cases h
theorem maxD2_eq {ds : List D} {d : D} (h : maxD2 ds = some d) : ∃ i j : Int, ds = [.int i, .int j] ∧ d = .int (if j > i then j else i) := by
  unfold maxD2 at h
  split at h
  · cases h; exact ⟨_, _, rfl, rfl⟩
  · cases h
theorem e_min2 (cx : CtxOk F X) (hg : Gl X "min") (hm : X.mg "min" = none) (ha : PA X (a :: es) (tL F W t)) (he : starEach (a :: es) X.env = (false, eval a X.env) :: starEach es X.env := by rfl) (hpl : (backTo pos (starEach es X.env)).any (·.1) = false := by rfl) : PE X (.Call (.Name "min" p) (a :: es) [] pos) (tE F W (M.callN minD2 t)) :=
  (pe_callB (call_min2 cx.calm) hg hm PyProof.Rows.boot_min ha (he := he) (hpl := hpl)).imp fun σ H Q ⟨ρ, S, Z, sl, rh, h⟩ => ⟨ρ, S, Z, sl, rh, run_step sl h fun vs ds H1 S1 s1 r sl1 ⟨d, e, q⟩ => by
    obtain ⟨i, j, rfl, rfl⟩ := minD2_eq e
    rw [two_ints r]
    exact ⟨i, j, rfl, q _ _ (.refl s1.2) (.int _)⟩⟩
theorem e_max2 (cx : CtxOk F X) (hg : Gl X "max") (hm : X.mg "max" = none) (ha : PA X (a :: es) (tL F W t)) (he : starEach (a :: es) X.env = (false, eval a X.env) :: starEach es X.env := by rfl) (hpl : (backTo pos (starEach es X.env)).any (·.1) = false := by rfl) : PE X (.Call (.Name "max" p) (a :: es) [] pos) (tE F W (M.callN maxD2 t)) :=
  (pe_callB (call_max2 cx.calm) hg hm PyProof.Rows.boot_max ha (he := he) (hpl := hpl)).imp fun σ H Q ⟨ρ, S, Z, sl, rh, h⟩ => ⟨ρ, S, Z, sl, rh, run_step sl h fun vs ds H1 S1 s1 r sl1 ⟨d, e, q⟩ => by
    obtain ⟨i, j, rfl, rfl⟩ := maxD2_eq e
    rw [two_ints r]
    exact ⟨i, j, rfl, q _ _ (.refl s1.2) (.int _)⟩⟩
/-! ### isinstance -/
def tyD : D → Option String
  | .none => some "NoneType"
  | .bool _ => some "bool"
  | .int _ => some "int"
  | .str _ => some "str"
  | .list _ => some "list"
  | .tuple _ => some "tuple"
  | _ => none
def isiD (T : String) (d : D) : Option D := (tyD d).bind fun s => (kitB s T).map .bool
theorem isiD_eq {T : String} {d d' : D} (h : isiD T d = some d') : ∃ s k, tyD d = some s ∧ kitB s T = some k ∧ d' = .bool k := by
  unfold isiD at h
  rw [Option.bind_eq_some_iff] at h
  obtain ⟨s, h1, h2⟩ := h
  rw [Option.map_eq_some_iff] at h2
  obtain ⟨k, h2, rfl⟩ := h2
  exact ⟨s, k, h1, h2, rfl⟩
theorem tyX_of {K : PySem.W.Frag} {v : V} {d : D} {s : String} (r : RepT F H S Z v d) (h : tyD d = some s) : TyX K H v (.type s) := by
  cases d with
  | none => cases h; rw [r.non]; exact .base .non
  | bool b => cases h; rw [r.bl]; exact .base (.bl b)
  | int b => cases h; rw [r.int]; exact .base (.int b)
  | str b => cases h; rw [r.str]; exact .base (.str b)
  | list ds =>
    cases h
    obtain ⟨a, xs, rfl, h1, _⟩ := r.lst
    exact .base (.lst h1)
  | tuple ds =>
    cases h
    obtain ⟨a, its, xs, rfl, h1, _⟩ := r.tup
    exact .fTuple h1
  | _ => cases h
theorem e_isi {T : String} {y : Str} {p2 : Pos} (r : Bool) (hg : Gl X "isinstance") (hm : X.mg "isinstance" = none) (ha : PE X a (tE F W m)) (hgT : Gl X y) (hmT : X.mg y = none) (hvT : bootBuiltins y = some (.type T)) (hn : y ≠ "__name__" := by decide) (hd : (y == ("__debug__" : Str)) = false := by decide)
    (he : starEach [a, .Name y p2] X.env = (false, eval a X.env) :: starEach [.Name y p2] X.env := by rfl) (he2 : starEach [.Name y p2] X.env = (false, eval (.Name y p2) X.env) :: starEach [] X.env := by rfl) :
    PE X (.Call (.Name "isinstance" p) [a, .Name y p2] [] pos) (tE F W (M.call1 r (isiD T) m)) :=
  (pe_callB call_isi hg hm PyProof.Rows.boot_isinstance (pa_cons ha (pa_cons (pe_bltn (v := .ty T) hgT hmT hvT rfl hn hd) pa_nil he2) he) (he := he)).imp fun σ H Q ⟨ρ, S, Z, sl, rh, h⟩ => ⟨ρ, S, Z, sl, rh, run_step sl h fun v d H1 S1 s1 r1 sl1 ⟨d', e, q⟩ => by
    obtain ⟨s, k, e1, e2, rfl⟩ := isiD_eq e
    exact ⟨v, .ty T, .type s, .type T, k, rfl, .ty T, tyX_of (rdB_rep s1.2 r r1) e1, kit_ty e2, q _ _ (.refl s1.2) (.bl k)⟩⟩
/-! ### items -/
def ixD : D → D → Option D
  | .list ds, .int i => atI ds i
  | .tuple ds, .int i => atI ds i
  | .str z, .int i => if z.length ≤ sizeLine then (atI z.cps.toList i).map fun c => .str ⟨#[c]⟩ else none
  | _, _ => none
theorem RepA.atI {vs : List V} {ds : List D} {i : Int} {d : D} (r : RepA F H S Z vs ds) (h : L2.atI ds i = some d) : ∃ v, L2.atI vs i = some v ∧ Rep F H S Z v d := by
  unfold L2.atI at h ⊢
  rw [r.length]
  cases e : ixN ds.length i with
  | none => rw [e] at h; cases h
  | some j =>
    rw [e] at h
    exact r.get h
theorem e_ix (r : Bool) (ha : PE X a (tE F W ma)) (hb : PE X b (tE F W mb)) (hs : PlainIx b := by intro _ _; rfl) : PE X (.Subscript a b pos) (tE F W (M.op2 r false ixD ma mb)) :=
  (pe_ix ix_seq ha hb hs).imp fun σ H Q ⟨ρ, S, Z, sl, rh, h⟩ => ⟨ρ, S, Z, sl, rh, run_step sl h fun x dx H1 S1 s1 rx sl1 h1 => ⟨ρ, S1, Z, sl1, s1.2, run_step sl1 h1 fun y dy H2 S2 s2 ry sl2 ⟨d, e, q⟩ => by
    have rx' := rdB_rep s2.2 r (rx.mono s2.1)
    have e : ixD (rdB r S2 dx) dy = some d := e
    generalize rdB r S2 dx = dz at e rx'
    unfold ixD at e
    split at e
    · obtain ⟨a, xs, rfl, h1, r1⟩ := rx'.lst
      cases ry
      obtain ⟨v, h3, h4⟩ := r1.atI e
      exact .inl ⟨a, xs, _, v, rfl, rfl, .of h1, h3, q _ _ (.refl s2.2) h4⟩
    · obtain ⟨a, its, xs, rfl, h1, _, r1⟩ := rx'.tup
      cases ry
      obtain ⟨v, h3, h4⟩ := r1.atI e
      exact .inr (.inl ⟨a, xs, _, v, rfl, rfl, sqF h1, h3, q _ _ (.refl s2.2) h4⟩)
    · cases rx'.str
      cases ry
      split at e
      · rename_i hz
        rw [Option.map_eq_some_iff] at e
        obtain ⟨c, e1, rfl⟩ := e
        exact .inr (.inr ⟨_, _, c, rfl, rfl, hz, e1, q _ _ (.refl s2.2) (.str _)⟩)
      · cases e
    · cases e⟩⟩
/-! ### slices -/
abbrev rO : RP (Option Int) (Option Int) := fun _ _ _ b c => b = c
def M.somI (m : M D) : M (Option Int) := m.bind fun d => .opt fun _ => (asI d).map some
theorem asI_eq {d : D} {k : Int} (h : asI d = some k) : d = .int k := by
  cases d <;> simp [asI] at h
  rw [h]
theorem o_none : PO X none (tG F W rO (.val none)) := ⟨fun pins s σ H Q I ⟨ρ, S, Z, sl, rh, h⟩ => po_none.run pins s σ H Q I (runG_val rh h rfl)⟩
theorem o_some (h : PE X e (tE F W m)) : PO X (some e) (tG F W rO m.somI) := ⟨fun pins s σ H Q I ⟨ρ, S, Z, sl, rh, h'⟩ => (po_some h).run pins s σ H Q I ⟨ρ, S, Z, sl, rh, run_step sl h' fun v d H1 S1 s1 r sl1 ⟨k, e, q⟩ => by
  rw [Option.map_eq_some_iff] at e
  obtain ⟨i, e, rfl⟩ := e
  rw [asI_eq e] at r
  cases r
  exact ⟨i, rfl, q _ _ (.refl s1.2) rfl⟩⟩⟩
def cutL (ds : List D) (lo hi : Option Int) : List D := (ds.drop (HT.sIx ds.length 0 lo)).take (HT.sIx ds.length ds.length hi - HT.sIx ds.length 0 lo)
def sliceD (lo hi : Option Int) : D → Option D
  | .list ds => some (.list (cutL ds lo hi))
  | .tuple ds => some (.tuple (cutL ds lo hi))
  | .str z => if z.length ≤ sizeLine then some (.str (cutS z lo hi)) else none
  | _ => none
theorem RepA.cut {vs : List V} {ds : List D} (r : RepA F H S Z vs ds) (lo hi : Option Int) : RepA F H S Z (cutV vs lo hi) (cutL ds lo hi) := by
  unfold cutV cutL
  rw [r.length]
  exact (r.drop _).take _
def M.slice (r : Bool) (m : M D) (lo hi : M (Option Int)) : M D := m.bind fun d => lo.bind fun l => hi.bind fun u => .opt fun S => sliceD l u (rdB r S d)
theorem e_slice {lo hi : Option Expr} {ml mh : M (Option Int)} {p2 : Pos} (r : Bool) (ha : PE X a (tE F W m)) (hl : PO X lo (tG F W rO ml)) (hh : PO X hi (tG F W rO mh)) : PE X (.Subscript a (.Slice lo hi none p2) pos) (tE F W (M.slice r m ml mh)) :=
  (pe_slice (SlR.or sl_list (SlR.or sl_tupF sl_str)) ha hl hh).imp fun σ H Q ⟨ρ, S, Z, sl, rh, h⟩ => ⟨ρ, S, Z, sl, rh, run_step sl h fun x dx H1 S1 s1 rx sl1 h1 => ⟨ρ, S1, Z, sl1, s1.2, run_step sl1 h1 fun l l' H2 S2 s2 el sl2 h2 => ⟨ρ, S2, Z, sl2, s2.2, run_step sl2 h2 fun u u' H3 S3 s3 eu sl3 ⟨d, e, q⟩ => by
    subst el eu
    have rx' := rdB_rep s3.2 r ((rx.mono s2.1).mono s3.1)
    have e : sliceD l u (rdB r S3 dx) = some d := e
    generalize rdB r S3 dx = dz at e rx'
    unfold sliceD at e
    split at e
    · cases e
      obtain ⟨a, xs, rfl, h1, r1⟩ := rx'.lst
      exact .inl ⟨a, xs, rfl, .of h1, fun p n => q _ _ (.same s3.2 (same_upd n)) (Rep.newL s3.2 n (r1.cut _ _))⟩
    · cases e
      obtain ⟨a, its, xs, rfl, h1, sa, r1⟩ := rx'.tup
      refine .inr (.inl ⟨a, xs, rfl, sqF h1, fun hw => ?_, fun hw p its' n => q _ _ (.same s3.2 (same_upd n)) (Rep.newT s3.2 n (r1.cut _ _))⟩)
      refine q _ _ (.refl s3.2) ?_
      have e1 : cutV xs l u = xs := by
        unfold cutV
        rw [hw.1, hw.2]
        simp
      have r2 := r1.cut l u
      rw [e1] at r2
      exact .tup h1 sa r2
    · split at e
      · rename_i hz
        cases e
        cases rx'.str
        exact .inr (.inr ⟨_, rfl, hz, q _ _ (.refl s3.2) (.str _)⟩)
      · cases e
    · cases e⟩⟩⟩
end
end EN

/-! == E6b == -/
set_option Elab.async false
set_option linter.all false
set_option maxRecDepth 100000
set_option maxHeartbeats 4000000
set_option autoImplicit false
/-! E6b: methods, assignments of comprehensions and items, ranges as values. -/
namespace EN
open PySem PySem.Spec PyProof.Rows L2
section
variable {F : Fx} {X : Cx} {W : WX} {H H' H1 H2 : Hp} {S S' S1 S2 : Sto} {Z : Addr → Prop} {σ : L2.St} {ρ : Lo}
variable {e o a b : Expr} {es : List Expr} {m mo mv ma mb : M D} {t : M (List D)} {pos p apos cpos : Pos} {x name : Str}
/-! ### x.index(y) -/
def indexD : D → D → Option D
  | .list ds, d => if SeqAt.shaped (.list ds) && SeqAt.shaped d then (ds.findIdx? fun z => PyData.eqv z d).map fun j => .int (j : Nat) else none
  | .tuple ds, d => if SeqAt.shaped (.list ds) && SeqAt.shaped d then (ds.findIdx? fun z => PyData.eqv z d).map fun j => .int (j : Nat) else none
  | _, _ => none
def rIndexT (K : PySem.W.Frag) : V → List V → Hp → VK → Prop := fun x xs H Q => ∃ (a : Addr) (y : V) (d : PyData) (zs : List V) (ds : List PyData) (j : Nat), x = V.ref a ∧ xs = [y] ∧ SqT K H a zs ∧ DpAll K H zs ds ∧ Dp K H y d ∧
  SeqAt.shaped (.list ds) = true ∧ SeqAt.shaped d = true ∧ (ds.findIdx? fun z => PyData.eqv z d) = some j ∧ Q (.int (j : Nat)) H
theorem mt_indexT (hu : X.A.units + 65 < cLine) : MtR X "tuple.index" (rIndexT X.K) := by
  rintro pins s σ H x xs v us Q I rx rxs ⟨a, y, d, zs, ds, j, rfl, rfl, hs, ha, hy, sl, sd, hj, q⟩
  obtain rfl : v = .ref a := rx
  obtain ⟨uy, rfl, ry⟩ := vals1 rxs
  obtain ⟨bs, r1⟩ := Dp.reads I d y uy hy ry
  obtain ⟨its, rv, ⟨⟨cls, dd, data, sls⟩, ho, hc, n, hdt⟩, hlen⟩ := I.tuple hs
  simp only at hc hdt
  subst hc hdt
  have hxs : PyData.canLayAll0 ds = true := SeqAt.canLay_of_shaped sl
  obtain ⟨as, h4⟩ := Dp.readsAll I ds _ its ha rv
  have hn : its.length = ds.length := SeqAt.ReadsAll.length ds its as h4
  have hmap : its.map (SeqAt.readOf s.heap) = ds := SeqAt.readsAll_map ds its as hxs h4
  obtain ⟨hj1, hj2, hj3⟩ := List.findIdx?_eq_some_iff_getElem.mp hj
  have hjs : j < its.toArray.size := by rw [List.size_toArray]; omega
  have at_ : ∀ (m : Nat) (hm : m < its.toArray.size) (hd : m < ds.length), SeqAt.readOf s.heap its.toArray[m] = ds[m] := fun m hm hd => by
    have hml : m < its.length := by rw [List.size_toArray] at hm; exact hm
    have e1 : (its.map (SeqAt.readOf s.heap))[m]'(by rw [List.length_map]; exact hml) = ds[m] := by simp only [hmap]
    rw [List.getElem_map] at e1
    simpa using e1
  refine call_meets PySem.F.slot_tuple_index ⟨_, ho, rfl⟩ PySem.F.entry_tuple_index (PySem.F.args_tuple_index_2 _ _)
    (TI.tuple_indexAt a its.toArray n dd sls uy (fun u => PyData.eqv (SeqAt.readOf s.heap u) d) j hjs ?_ ?_) ⟨ho, SeqAt.items_eqAt (vs := its.toArray) (show ReadsAll s.heap its.toArray.toList ds as from h4) r1 hxs (SeqAt.canLay_of_shaped sd) (room_in_shaped sd hu), ?_⟩
  · show PyData.eqv (SeqAt.readOf s.heap its.toArray[j]) d = true
    rw [at_ j hjs hj1]; exact hj2
  · intro m hm hmj
    show PyData.eqv (SeqAt.readOf s.heap its.toArray[m]) d = false
    rw [at_ m hm (by omega)]
    exact Bool.eq_false_iff.mpr (hj3 m hmj)
  · exact ⟨.int (j : Nat), H, I.tok _, ⟨_, rfl⟩, q⟩
/-- what the receiver is, before the arguments are read -/
def isTy (T : String) : D → Bool
  | .str _ => T == "str"
  | .list _ => T == "list" || T == "seq"
  | .tuple _ => T == "tuple" || T == "seq"
  | _ => false
def M.meth (T : String) (r : Bool) (g : D → D → Option D) (mo mv : M D) : M D := mo.bind fun d => (M.opt fun S => if isTy T (rdB r S d) then some () else none).bind fun _ => mv.bind fun y => .opt fun S => g (rdB r S d) y
theorem run_unit {α β : Type} {R : RP α β} {c : Sto → Bool} {f : Unit → M α} {Q : β → Hp → Prop} (h : runG F W R σ ρ H S Z ((M.opt fun S => if c S then some () else none).bind f) Q) : c S = true ∧ runG F W R σ ρ H S Z (f ()) Q := by
  obtain ⟨u, e, h⟩ := h
  by_cases hc : c S = true
  · exact ⟨hc, h⟩
  · have e : (if c S = true then some () else none) = some u := e
    rw [if_neg hc] at e
    cases e
theorem e_index (cx : CtxOk F X) (ho : PE X o (tE F W mo)) (ha : PE X e (tE F W mv)) (hbase : attributeBase o "index" X.env (eval o X.env) = eval o X.env := by rfl)
    (hfew : ((backTo cpos (starEach [e] X.env)).all (fun x => !x.1) && (backToKw cpos (keywordEach [] X.env)).all (fun x => x.1.isSome) && decide ([e].length + ([] : List Keyword).length + (if ([] : List Keyword).isEmpty then 0 else 1) < 30)) = true := by rfl)
    (hline : (apos.endLine == cpos.line) = true := by rfl) (hs : starEach [e] X.env = (false, eval e X.env) :: starEach [] X.env := by rfl) : PE X (.Call (.Attribute o "index" apos) [e] [] cpos) (tE F W (M.meth "seq" false indexD mo mv)) := by
  constructor
  rintro pins s σ H Q I ⟨ρ, S, Z, sl, rh, h⟩
  have hu : X.A.units + 65 < cLine := Nat.lt_of_le_of_lt (by omega) cx.units
  have hrun := ho.run pins s σ H (fun x H1 => ∃ ρ S1 d, Sl F H1 S1 Z σ ρ ∧ RelH F H1 S1 Z ∧ Rep F H1 S1 Z x d ∧ isTy "seq" d = true ∧ runG F W (rD F) σ ρ H1 S1 Z (mv.bind fun y => .opt fun S => indexD d y) Q) I
    ⟨ρ, S, Z, sl, rh, run_step sl h fun v d H1 S1 s1 r1 sl1 h1 => by
      obtain ⟨hc, h2⟩ := run_unit h1
      exact ⟨ρ, S1, d, sl1, s1.2, r1, hc, h2⟩⟩
  refine wpAny_Call_method_late hbase hfew hline rfl (thn hrun ?_)
  rintro v s1 ⟨x, H1, I1, r1, ρ, S1, d, sl1, rh1, rr, hc, h2⟩
  have hA := fun (K : V → Hp → Prop) (q : tE F W mv σ H1 K) => (pa_cons ha pa_nil hs).run cpos pins s1 σ H1 (fun vs H2 => ∃ y, vs = [y] ∧ K y H2) I1 (show tCons (tE F W mv) tNil σ H1 _ from by
    obtain ⟨ρ, S, Z, a, b, c⟩ := q
    exact ⟨ρ, S, Z, a, b, mv.mono (fun _ _ k v H' st r => ⟨v, rfl, k v H' st r⟩) (fun _ _ z => z) c⟩)
  have later : ∀ {id : String} (hm : ∀ (s2 : Shared) (H2 : Hp) (S2 : Sto) (y : V) (dy : D) (us : List Value) (j : D), Inv X pins σ H2 s2 → Rep F H2 S2 Z x d → Rep F H2 S2 Z y dy → indexD d dy = some j → Vals [y] us → (∀ v, Rep F H2 S2 Z v j → Q v H2) →
      wpAny (model X.prog X.w) X.A (call (.builtin id) (v :: us)) (EP X pins σ Q) X.xe s2), wpAny (model X.prog X.w) X.A (callWith cpos (.builtin id) [v] (backTo cpos (starEach [e] X.env)) []) (EP X pins σ Q) X.xe s1 := by
    intro id hm
    have := hA (fun y H2 => ∃ S2 dy j, Rep F H2 S2 Z x d ∧ Rep F H2 S2 Z y dy ∧ indexD d dy = some j ∧ ∀ v, Rep F H2 S2 Z v j → Q v H2) ⟨ρ, S1, Z, sl1, rh1, run_step sl1 h2 fun y dy H2 S2 s2 ry sl2 ⟨j, e, q⟩ => ⟨S2, dy, j, rr.mono s2.1, ry, e, fun v r => q v _ (.refl s2.2) r⟩⟩
    rw [hs] at this ⊢
    refine Calls.callWith_builtin (by rfl) (Calls.evalArgs_plain (thn this ?_))
    rintro us s2 ⟨vs, H2, I2, r2, y, rfl, S2, dy, j, rr2, ry, e, q⟩
    exact hm s2 H2 S2 y dy us j I2 rr2 ry e r2 q
  cases d with
  | list ds =>
    cases rr with
    | lst g1 g2 g3 =>
    obtain rfl : v = .ref _ := r1
    obtain ⟨e1, e2⟩ := tyV_is (T := "list") (x := .ref _) I1 rfl (.inl ⟨rfl, _, .of g1⟩)
    refine ⟨"list", "list.index", PySem.F.plainAttrs_list, PySem.F.slot_list_index, PySem.F.type_list_index, e1, e2, later fun s2 H2 S2 y dy us j I2 rr2 ry e r2 q => ?_⟩
    simp only [indexD] at e
    split at e
    · rename_i hh
      rw [Bool.and_eq_true] at hh
      rw [Option.map_eq_some_iff] at e
      obtain ⟨i, e, rfl⟩ := e
      obtain ⟨hj1, hj2, hj3⟩ := List.findIdx?_eq_some_iff_getElem.mp e
      exact mt_indexD hu pins s2 σ H2 (.ref _) _ _ us Q I2 rfl r2 ⟨_, y, dy, ds, i, ds[i], rfl, rfl, rr2.dp (shaped_lay hh.1), ry.dp (shaped_lay hh.2), hh.1, hh.2, List.getElem?_eq_getElem hj1, hj2, fun m z' hm hz => by
        obtain ⟨hml, rfl⟩ := List.getElem?_eq_some_iff.mp hz
        exact Bool.eq_false_iff.mpr (hj3 m hm), q _ (.int _)⟩
    · cases e
  | tuple ds =>
    cases rr with
    | tup g1 g2 g3 =>
    obtain rfl : v = .ref _ := r1
    have ho := (I1.hok _ _ g1).1
    refine ⟨"tuple", "tuple.index", PySem.F.plainAttrs_tuple, PySem.F.slot_tuple_index, PySem.F.type_tuple_index, ⟨_, ho, rfl⟩, fun a e => by cases e; exact ⟨_, ho, rfl⟩, later fun s2 H2 S2 y dy us j I2 rr2 ry e r2 q => ?_⟩
    simp only [indexD] at e
    split at e
    · rename_i hh
      rw [Bool.and_eq_true] at hh
      rw [Option.map_eq_some_iff] at e
      obtain ⟨i, e, rfl⟩ := e
      cases rr2 with
      | tup k1 k2 k3 =>
      exact mt_indexT hu pins s2 σ H2 (.ref _) _ _ us Q I2 rfl r2 ⟨_, y, dy, _, ds, i, rfl, rfl, sqF k1, k3.dp (SeqAt.canLay_of_shaped hh.1), ry.dp (shaped_lay hh.2), hh.1, hh.2, e, q _ (.int _)⟩
    · cases e
  | _ => exact absurd hc (by simp [isTy])
/-! ### a method of a text -/
theorem e_methS {id : String} {g : D → D → Option D} {r0 : V → List V → Hp → VK → Prop} (slot : Slot "str" name id) (hty : typeOf (.builtin id) = pure (.type "method_descriptor")) (hm : MtR X id r0)
    (link : ∀ H S Z z y dy d Q, RelH F H S Z → RepT F H S Z y dy → g (.str z) dy = some d → (∀ v H', Same H H' → Rep F H' S Z v d → Q v H') → r0 (.str z) [y] H Q)
    (ho : PE X o (tE F W mo)) (ha : PE X e (tE F W mv)) (hbase : attributeBase o name X.env (eval o X.env) = eval o X.env := by rfl)
    (hfew : ((backTo cpos (starEach [e] X.env)).all (fun x => !x.1) && (backToKw cpos (keywordEach [] X.env)).all (fun x => x.1.isSome) && decide ([e].length + ([] : List Keyword).length + (if ([] : List Keyword).isEmpty then 0 else 1) < 30)) = true := by rfl)
    (hline : (apos.endLine == cpos.line) = true := by rfl) (hs : starEach [e] X.env = (false, eval e X.env) :: starEach [] X.env := by rfl) (hplain : (backTo cpos (starEach [] X.env)).any (·.1) = false := by rfl) :
    PE X (.Call (.Attribute o name apos) [e] [] cpos) (tE F W (M.meth "str" false g mo mv)) :=
  (pe_bm PySem.F.plainAttrs_str slot hty hm ho (pa_cons ha pa_nil hs) hbase hfew hline hs hplain).imp fun σ H Q ⟨ρ, S, Z, sl, rh, h⟩ => ⟨ρ, S, Z, sl, rh, run_step sl h fun x dx H1 S1 s1 rx sl1 h1 => by
    obtain ⟨hc, h2⟩ := run_unit h1
    have hc : isTy "str" dx = true := hc
    cases dx with
    | str z =>
      cases rx
      exact ⟨rfl, ρ, S1, Z, sl1, s1.2, run_step sl1 h2 fun y dy H2 S2 s2 ry sl2 ⟨d, e, q⟩ => link H2 S2 Z z y dy d Q s2.2 (.inl ry) e fun v H' sm r => q v H' (.same s2.2 sm) r⟩
    | _ => exact absurd hc (by simp [isTy])⟩
def splitD : D → D → Option D
  | .str a, .str b => if b.length ≠ 0 ∧ a.length + 2 ≤ sizeLine then some (.list ((Txt.split a b).map .str)) else none
  | _, _ => none
def joinD : D → D → Option D
  | .str a, .list ds => (asStrs ds).bind fun ys => if (ys.map (·.length)).sum + ys.length * a.length ≤ 16777216 then some (.str (Txt.join a ys)) else none
  | .str a, .tuple ds => (asStrs ds).bind fun ys => if (ys.map (·.length)).sum + ys.length * a.length ≤ 16777216 then some (.str (Txt.join a ys)) else none
  | _, _ => none
theorem e_split (ho : PE X o (tE F W mo)) (ha : PE X e (tE F W mv)) (hbase : attributeBase o "split" X.env (eval o X.env) = eval o X.env := by rfl)
    (hfew : ((backTo cpos (starEach [e] X.env)).all (fun x => !x.1) && (backToKw cpos (keywordEach [] X.env)).all (fun x => x.1.isSome) && decide ([e].length + ([] : List Keyword).length + (if ([] : List Keyword).isEmpty then 0 else 1) < 30)) = true := by rfl)
    (hline : (apos.endLine == cpos.line) = true := by rfl) (hs : starEach [e] X.env = (false, eval e X.env) :: starEach [] X.env := by rfl) (hplain : (backTo cpos (starEach [] X.env)).any (·.1) = false := by rfl) :
    PE X (.Call (.Attribute o "split" apos) [e] [] cpos) (tE F W (M.meth "str" false splitD mo mv)) :=
  e_methS PySem.F.slot_str_split PySem.F.type_str_split mt_split (fun H S Z z y dy d Q rh ry e q => by
    cases dy with
    | str b =>
      rw [ry.str]
      simp only [splitD] at e
      split at e
      · rename_i hh
        cases e
        exact ⟨z, b, rfl, rfl, by simpa using hh.1, hh.2, fun p n => q _ _ (same_upd n) (Rep.newL rh n (RepA.strs _))⟩
      · cases e
    | _ => simp [splitD] at e) ho ha hbase hfew hline hs hplain
theorem e_join (ho : PE X o (tE F W mo)) (ha : PE X e (tE F W mv)) (hbase : attributeBase o "join" X.env (eval o X.env) = eval o X.env := by rfl)
    (hfew : ((backTo cpos (starEach [e] X.env)).all (fun x => !x.1) && (backToKw cpos (keywordEach [] X.env)).all (fun x => x.1.isSome) && decide ([e].length + ([] : List Keyword).length + (if ([] : List Keyword).isEmpty then 0 else 1) < 30)) = true := by rfl)
    (hline : (apos.endLine == cpos.line) = true := by rfl) (hs : starEach [e] X.env = (false, eval e X.env) :: starEach [] X.env := by rfl) (hplain : (backTo cpos (starEach [] X.env)).any (·.1) = false := by rfl) :
    PE X (.Call (.Attribute o "join" apos) [e] [] cpos) (tE F W (M.meth "str" false joinD mo mv)) :=
  e_methS PySem.F.slot_str_join PySem.F.type_str_join mt_join (fun H S Z z y dy d Q rh ry e q => by
    have key : ∀ ds, (asStrs ds).bind (fun ys => if (ys.map (·.length)).sum + ys.length * z.length ≤ 16777216 then some (PyData.str (Txt.join z ys)) else none) = some d → ∃ ys, ds = ys.map PyData.str ∧ (ys.map (·.length)).sum + ys.length * z.length ≤ 16777216 ∧ d = .str (Txt.join z ys) := fun ds h => by
      rw [Option.bind_eq_some_iff] at h
      obtain ⟨ys, h1, h2⟩ := h
      split at h2
      · cases h2
        exact ⟨ys, asStrs_eq h1, by assumption, rfl⟩
      · cases h2
    cases dy with
    | list ds =>
      obtain ⟨ys, rfl, h1, rfl⟩ := key ds e
      obtain ⟨a, xs, rfl, h3, h4⟩ := ry.lst
      cases h4.of_strs
      exact ⟨z, a, ys, rfl, rfl, .inl (.of h3), h1, q _ _ (Same.refl _) (.str _)⟩
    | tuple ds =>
      obtain ⟨ys, rfl, h1, rfl⟩ := key ds e
      obtain ⟨a, its, xs, rfl, h3, _, h4⟩ := ry.tup
      cases h4.of_strs
      exact ⟨z, a, ys, rfl, rfl, .inr (sqF h3), h1, q _ _ (Same.refl _) (.str _)⟩
    | _ => simp [joinD] at e) ho ha hbase hfew hline hs hplain
/-! ### methods of a cell -/
def M.append (mo mv : M D) : M D := mo.bind fun o => ⟨fun ρ S Q E => ∃ (a : Addr) (ds0 : List D), o = refD a ∧ S a = some (.lst ds0) ∧ mv.run ρ S (fun d S2 => ∃ ds, S2 a = some (.lst ds) ∧ ds.length < sizeLine ∧ Q .none (S2.put a (.lst (ds ++ [d])))) E,
  fun q e ⟨a, ds0, h1, h2, h⟩ => ⟨a, ds0, h1, h2, mv.mono (fun _ _ ⟨ds, k1, k2, k⟩ => ⟨ds, k1, k2, q _ _ k⟩) e h⟩⟩
def M.popAt (mo mv : M D) : M D := mo.bind fun o => ⟨fun ρ S Q E => ∃ (a : Addr) (ds0 : List D), o = refD a ∧ S a = some (.lst ds0) ∧ mv.run ρ S (fun d S2 => ∃ ds i k y, d = .int i ∧ S2 a = some (.lst ds) ∧ -(2 ^ 63) ≤ i ∧ i < 2 ^ 63 ∧ seqIndex? i ds.length = some k ∧ ds[k]? = some y ∧ Q y (S2.put a (.lst (ds.eraseIdx k)))) E,
  fun q e ⟨a, ds0, h1, h2, h⟩ => ⟨a, ds0, h1, h2, mv.mono (fun _ _ ⟨ds, i, k, y, k1, k2, k3, k4, k5, k6, k7⟩ => ⟨ds, i, k, y, k1, k2, k3, k4, k5, k6, q _ _ k7⟩) e h⟩⟩
theorem cell_lst (rh : RelH F H S Z) {a : Addr} {ds : List D} (h : S a = some (.lst ds)) : ∃ xs, H a = some (.lst xs) ∧ RepA F H S Z xs ds := rh.cells a _ h
theorem e_append (ho : PE X o (tE F W mo)) (ha : PE X e (tE F W mv)) (hbase : attributeBase o "append" X.env (eval o X.env) = eval o X.env := by rfl)
    (hfew : ((backTo cpos (starEach [e] X.env)).all (fun x => !x.1) && (backToKw cpos (keywordEach [] X.env)).all (fun x => x.1.isSome) && decide ([e].length + ([] : List Keyword).length + (if ([] : List Keyword).isEmpty then 0 else 1) < 30)) = true := by rfl)
    (hline : (apos.endLine == cpos.line) = true := by rfl) (hs : starEach [e] X.env = (false, eval e X.env) :: starEach [] X.env := by rfl) (hplain : (backTo cpos (starEach [] X.env)).any (·.1) = false := by rfl) :
    PE X (.Call (.Attribute o "append" apos) [e] [] cpos) (tE F W (M.append mo mv)) :=
  (pe_bm PySem.F.plainAttrs_list PySem.F.slot_list_append PySem.F.type_list_append mt_append ho (pa_cons ha pa_nil hs) hbase hfew hline hs hplain).imp fun σ H Q ⟨ρ, S, Z, sl, rh, h⟩ => ⟨ρ, S, Z, sl, rh, run_step sl h fun x dx H1 S1 s1 rx sl1 ⟨a, ds0, e1, e2, h2⟩ => by
    subst e1
    obtain rfl := rep_refD rx
    obtain ⟨xs0, k1, _⟩ := cell_lst s1.2 e2
    exact ⟨.inl ⟨rfl, xs0, .of k1⟩, ρ, S1, Z, sl1, s1.2, mv.mono (fun d S2 ⟨ds, g1, g2, g3⟩ y H2 st ry => by
      obtain ⟨xs, k2, k3⟩ := cell_lst st.2 g1
      refine ⟨a, xs, y, rfl, rfl, k2, by rw [k3.length]; exact g2, g3 .non _ ⟨?_, st.2.putL g1 k2 (k3.append (.one ry))⟩ .non⟩
      exact st.1.trans (ext_putL ⟨_, g1⟩)) (fun _ _ z => z) h2⟩⟩
theorem e_popAt (ho : PE X o (tE F W mo)) (ha : PE X e (tE F W mv)) (hbase : attributeBase o "pop" X.env (eval o X.env) = eval o X.env := by rfl)
    (hfew : ((backTo cpos (starEach [e] X.env)).all (fun x => !x.1) && (backToKw cpos (keywordEach [] X.env)).all (fun x => x.1.isSome) && decide ([e].length + ([] : List Keyword).length + (if ([] : List Keyword).isEmpty then 0 else 1) < 30)) = true := by rfl)
    (hline : (apos.endLine == cpos.line) = true := by rfl) (hs : starEach [e] X.env = (false, eval e X.env) :: starEach [] X.env := by rfl) (hplain : (backTo cpos (starEach [] X.env)).any (·.1) = false := by rfl) :
    PE X (.Call (.Attribute o "pop" apos) [e] [] cpos) (tE F W (M.popAt mo mv)) :=
  (pe_bm PySem.F.plainAttrs_list PySem.F.slot_list_pop PySem.F.type_list_pop mt_popAt ho (pa_cons ha pa_nil hs) hbase hfew hline hs hplain).imp fun σ H Q ⟨ρ, S, Z, sl, rh, h⟩ => ⟨ρ, S, Z, sl, rh, run_step sl h fun x dx H1 S1 s1 rx sl1 ⟨a, ds0, e1, e2, h2⟩ => by
    subst e1
    obtain rfl := rep_refD rx
    obtain ⟨xs0, k1, _⟩ := cell_lst s1.2 e2
    exact ⟨.inl ⟨rfl, xs0, .of k1⟩, ρ, S1, Z, sl1, s1.2, mv.mono (fun d S2 ⟨ds, i, k, z, g0, g1, g2, g3, g4, g5, g6⟩ y H2 st ry => by
      subst g0
      cases ry
      obtain ⟨xs, k2, k3⟩ := cell_lst st.2 g1
      obtain ⟨v, k4, k5⟩ := k3.get g5
      refine ⟨a, xs, i, k, v, rfl, rfl, k2, g2, g3, by rw [k3.length]; exact g4, k4, g6 v _ ⟨?_, st.2.putL g1 k2 (k3.eraseIdx k)⟩ (k5.mono (ext_putL ⟨_, g1⟩))⟩
      exact st.1.trans (ext_putL ⟨_, g1⟩)) (fun _ _ z => z) h2⟩⟩
/-- o[k] = value -/
theorem s_setIx {ob kb vb : Expr} {mk : M D} {pos' : Pos} (hv : PE X vb (tE F W mv)) (ho : PE X ob (tE F W mo)) (hk : PE X kb (tE F W mk))
    (ha : ∀ v, assign (.Subscript ob kb pos') X.env v = (do
      let ov ← holding [v] (eval ob X.env)
      let iv ← holding [v, ov] (eval kb X.env)
      standAt pos'
      holding [v, ov, iv] (setItem ov iv v)
      release [v, ov, iv] []) := by intro _; rfl)
    (hs : swapsWithSole [.Subscript ob kb pos'] vb pos.line X.env = pure false := by rfl) (hw : swappedStores [.Subscript ob kb pos'] vb X.env = pure none := by rfl) (h1 : (assignEach [.Subscript ob kb pos'] X.env).map (·.2) = [assign (.Subscript ob kb pos') X.env] := by rfl) :
    PS X (.Assign [.Subscript ob kb pos'] vb pos) (tS F W (.setIx mv mo mk)) :=
  (ps_asg hv (pg_sub ho hk set_list ha) hs hw h1).imp fun D σ H ⟨ρ, S, Z, sl, rh, h⟩ => ⟨ρ, S, Z, sl, rh, exprS sl h fun v d H1 S1 st1 rv sl1 h1 =>
    ⟨ρ, S1, Z, sl1, st1.2, mo.mono (fun od S2 h2 ov H2 st2 ro => ⟨ρ, S2, Z, sl1.mono st2.1, st2.2, mk.mono (fun kd S3 ⟨a, ds, i, j, e1, e2, e3, e4, q⟩ kv H3 st3 rk => by
        subst e1 e3
        obtain rfl := rep_refD ro
        cases rk
        obtain ⟨xs, k2, k3⟩ := cell_lst st3.2 e2
        have rv3 := (rv.mono st2.1).mono st3.1
        have ex : Ext H3 S3 (upd H3 a (.lst (xs.set j v))) (S3.put a (.lst (ds.set j d))) := ext_putL ⟨_, e2⟩
        exact ⟨a, xs, i, j, rfl, rfl, k2, by rw [k3.length]; exact e4, q σ _ ⟨((st1.1.trans st2.1).trans st3.1).trans ex, st3.2.putL e2 k2 (k3.set rv3 j)⟩ (((sl1.mono st2.1).mono st3.1).mono ex)⟩)
      (fun x S3 k C d H' e st => k C d σ _ e ((st1.trans st2).trans st) ((sl1.mono st2.1).mono st.1)) h2⟩)
      (fun x S3 k C d H' e st => k C d σ _ e (st1.trans st) (sl1.mono st.1)) h1⟩⟩
end
end EN

/-! == E7 == -/
set_option Elab.async false
set_option linter.all false
set_option maxRecDepth 100000
set_option maxHeartbeats 4000000
set_option autoImplicit false
/-! E7: defs and their calls. -/
namespace EN
open PySem PySem.Spec PyProof.Rows L2
abbrev QD := D → Sto → Prop
structure C2 where
  run : List D → Sto → QD → QX → Prop
  mono : ∀ {ds : List D} {S : Sto} {Q Q' : QD} {E E' : QX}, (∀ d S, Q d S → Q' d S) → (∀ x S, E x S → E' x S) → run ds S Q E → run ds S Q' E'
/-- a function on data -/
inductive Res where
  | ok (d : D)
  | ex (x : Str)
  | no
def Res.run (r : Res) (S : Sto) (Q : QD) (E : QX) : Prop := match r with
  | .ok d => Q d S
  | .ex x => E x S
  | .no => False
def C2.pure (f : List D → Res) : C2 := ⟨fun ds S Q E => (f ds).run S Q E, fun {ds S Q Q' E E'} q e h => by
  unfold Res.run at h ⊢
  split at h
  · exact q _ _ h
  · exact e _ _ h
  · exact h⟩
def M.call (n : Nat) (c : C2) (t : M (List D)) : M D := t.bind fun ds => ⟨fun _ S Q E => ds.length = n ∧ c.run ds S Q E, fun q e h => ⟨h.1, c.mono q e h.2⟩⟩
def M.call0 (c : C2) : M D := ⟨fun _ S Q _ => c.run [] S Q noE, fun q _ h => c.mono q (fun _ _ z => z) h⟩
def spD (F : Fx) (n : Nat) (c : C2) : Sp := fun vs H Q E => ∃ S Z ds, vs.length = n ∧ RelH F H S Z ∧ RepA F H S Z vs ds ∧ c.run ds S (fun d S' => ∀ v H', Stp F H S Z H' S' → Rep F H' S' Z v d → Q v H') (fun x S' => ∀ (C : Addr) (d : Option Addr) H', F.mg x = some (.ref C) → Stp F H S Z H' S' → DOk H' d → E (.ref C) d H')
structure FnD (F : Fx) (P : Program) (w : World) (base : Heap) (x : Str) (k n : Nat) (c : C2) : Prop where
  ex : ∃ (f : Addr) (fd : FuncData) (ps : List Str), ps.length = n ∧ F.mg x = some (.ref f) ∧ PySem.W.keepIn F.K (.ref f) = true ∧ Binds F.K fd ps [] ∧ FnOk P w F.K F.mg base (L2N.CX P w) k f fd ps (spD F n c)
section
variable {F : Fx} {X : Cx} {W : WX} {H H' H1 H2 : Hp} {S S' S1 S2 : Sto} {Z : Addr → Prop} {σ : L2.St} {ρ : Lo}
variable {e : Expr} {es : List Expr} {t : M (List D)} {pos p : Pos} {x : Str} {k j n : Nat} {c c' : C2}
theorem FnD.imp {P : Program} {w : World} {base : Heap} (f : FnD F P w base x k n c) (h : ∀ ds S Q E, ds.length = n → c'.run ds S Q E → c.run ds S Q E) : FnD F P w base x k n c' := by
  obtain ⟨a, fd, ps, e1, e2, e3, e4, e5⟩ := f.ex
  refine ⟨a, fd, ps, e1, e2, e3, e4, e5.imp ?_⟩
  rintro vs H Q E ⟨S, Z, ds, l, rh, ra, q⟩
  exact ⟨S, Z, ds, l, rh, ra, h _ _ _ _ (by rw [← ra.length]; exact l) q⟩
theorem e_call (g : Gd F X W k) (fn : FnD F X.prog X.w X.base x j n c) (hk : j ≤ k) (hg : Gl X x) (ha : PA X (e :: es) (tL F W t)) (hdb : (x == ("__debug__" : Str)) = false := by decide)
    (he : starEach (e :: es) X.env = (false, eval e X.env) :: starEach es X.env := by rfl) (hpl : (backTo pos (starEach es X.env)).any (·.1) = false := by rfl) : PE X (.Call (.Name x p) (e :: es) [] pos) (tE F W (M.call n c t)) := by
  obtain ⟨f, fd, ps, hn, gm, kp, hb, ok⟩ := fn.ex
  have hK := g.cx.hK
  have hmg := g.cx.hmg
  rw [← hmg] at gm
  rw [← hK] at kp hb
  have ok' : FnOk X.prog X.w X.K X.mg X.base (L2N.CX X.prog X.w) j f fd ps (spD F n c) := by rw [hK, hmg]; exact ok
  refine (pe_callS ok' (g.rm.mono hk) hg gm kp hb (fun σ => L2N.passAt g.tk σ) ha hdb he hpl).imp ?_
  rintro σ H Q ⟨ρ, S, Z, sl, rh, h⟩
  refine ⟨ρ, S, Z, sl, rh, run_step sl h fun vs ds H1 S1 s1 r sl1 h1 => ?_⟩
  obtain ⟨hl, h2⟩ := h1
  exact ⟨S1, Z, ds, by rw [r.length]; exact hl, s1.2, r, h2⟩
theorem e_call0 (g : Gd F X W k) (fn : FnD F X.prog X.w X.base x j 0 c) (hk : j ≤ k) (hg : Gl X x) (hdb : (x == ("__debug__" : Str)) = false := by decide) : PE X (.Call (.Name x p) [] [] pos) (tE F W (M.call0 c)) := by
  obtain ⟨f, fd, ps, hn, gm, kp, hb, ok⟩ := fn.ex
  have hK := g.cx.hK
  have hmg := g.cx.hmg
  rw [← hmg] at gm
  rw [← hK] at kp hb
  have ok' : FnOk X.prog X.w X.K X.mg X.base (L2N.CX X.prog X.w) j f fd ps (spD F 0 c) := by rw [hK, hmg]; exact ok
  have hx : Passes (L2N.CX X.prog X.w) X (fun _ _ _ => False) := by
    rintro pins σ H s e s' I ⟨a, B, H', cls, d, _, _, _, _, _, _, _, h⟩
    exact h.elim
  refine (pe_call0 ok' (g.rm.mono hk) hg gm kp hb .nil hx hdb).imp ?_
  rintro σ H Q ⟨ρ, S, Z, sl, rh, h⟩
  exact ⟨S, Z, [], rfl, rh, .nil, c.mono (fun d S' q => q) (fun _ _ z => z.elim) h⟩
def startD (N : List Str) (ds : List D) : Lo := ds.map some ++ List.replicate (N.length - ds.length) none
theorem sl_start {N : List Str} {vs : List V} {ds : List D} (r : RepA F H S Z vs ds) : Sl F H S Z (L2.start N vs) (startD N ds) := by
  refine ⟨?_, fun i d h => ?_⟩
  · simp [L2.start, startD, r.length]
  · unfold startD at h
    unfold L2.start
    by_cases hi : i < ds.length
    · rw [List.getElem?_append_left (by rw [List.length_map]; exact hi), List.getElem?_map] at h
      rw [List.getElem?_append_left (by rw [List.length_map, r.length]; exact hi), List.getElem?_map]
      cases e : ds[i]? with
      | none => rw [e] at h; cases h
      | some d' =>
        rw [e] at h
        cases h
        obtain ⟨v, h1, h2⟩ := r.get e
        exact ⟨v, by rw [h1]; rfl, h2⟩
    · rw [List.getElem?_append_right (by rw [List.length_map]; omega), List.getElem?_replicate] at h
      split at h <;> cases h
theorem gd_of {P : Program} {w : World} {base : Heap} {N : List Str} {qual : Str} {scope : Scope} {f : Addr} {cdv : Value} {A : Around} {outer : List Env} {s : Shared} {H : Hp} {E : XK} (nd : N.Nodup) (hr : Room k (A.deeper (envOfC qual scope s.heap.objs.size f cdv))) :
    Gd F (cxOf (L2N.CX P w) P w F.K F.mg base N qual scope f cdv A outer s H E) (fun cls d _ H => E cls d H) k :=
  ⟨⟨rfl, rfl, rfl, nd, by have := hr.un; show (A.deeper (envOfC qual scope s.heap.objs.size f cdv)).units + 66 < cLine; omega⟩, L2N.takes_of rfl rfl rfl rfl, hr, passes_of rfl⟩
/-- a def by its body -/
theorem fnD_of {P : Program} {w : World} {base : Heap} {st : Stmt} {f : Addr} {fd : FuncData} {N ps : List Str} {ms : MS} (Fn : Fun F.K x x st f fd) (gm : F.mg x = some (.ref f)) (hb : Binds F.K fd ps []) (Sc : FnScope N ps (defScope st)) (hn : ps.length = n)
    (body : ∀ (cdv : Value) (A : Around) (outer : List Env) (s : Shared) (H : Hp) (E : XK), fd.code = cdv → Gd F (cxOf (L2N.CX P w) P w F.K F.mg base N x (defScope st) f cdv A outer s H E) (fun cls d _ H => E cls d H) k →
      PSs (cxOf (L2N.CX P w) P w F.K F.mg base N x (defScope st) f cdv A outer s H E) (defBody st) (tS F (fun cls d _ H => E cls d H) ms))
    (hc : ∀ ds S Q E, ds.length = n → c.run ds S Q E → ms.run (startD N ds) S (fun _ S' => Q .none S') Q (fun x _ S' => E x S')) : FnD F P w base x (k + 1) n c := by
  refine ⟨f, fd, ps, hn, gm, Fn.kp, hb, ?_⟩
  obtain ⟨oc, od, kV, doc, pm, an, cdv, ct, osl, rfl, lk, hcd⟩ := Fn.ex
  refine fn_of lk hcd Sc (fun vs H Q E ⟨_, _, _, h, _⟩ => by rw [hn]; exact h) fun A outer s H vs Q E hr ⟨S, Z, ds, hl, rh, ra, h⟩ => ⟨_, body cdv A outer s H E rfl (gd_of Sc.nd hr), ?_⟩
  refine ⟨startD N ds, S, Z, sl_start ra, rh, ms.mono (fun ρ' S' q σ' H' st sl => q .non H' st .non) (fun d S' q => q) (fun x ρ' S' q C d σ' H' e st sl => q C d H' e st) (hc ds S _ _ (by rw [← ra.length]; exact hl) h)⟩
end
end EN

/-! == E6c == -/
set_option Elab.async false
set_option linter.all false
set_option maxRecDepth 100000
set_option maxHeartbeats 4000000
set_option autoImplicit false
/-! E6c: a name bound to a comprehension, ranges as values. -/
namespace EN
open PySem PySem.Spec PyProof.Rows L2
section
variable {F : Fx} {X : Cx} {W : WX} {H H' H1 H2 : Hp} {S S' S1 S2 : Sto} {Z : Addr → Prop} {σ : L2.St} {ρ : Lo}
variable {P P1 : RP D V} {tge iter elt : Expr} {ifs : List Expr} {scope : Scope} {own : List (Str × Nat)} {pos spos py : Pos} {mi : M (List D)} {tg : Tg} {is : List Nat} {mt : M Bool} {me : M D} {i : Nat} {y : Str}
theorem s_setLc (cx : CtxOk F X) (his : ∀ i ∈ is, i ∈ own.map (·.2)) (hy : X.N[i]? = some y) (hyl : X.env.scope.names.lookup y = some .local)
    (hsw : swapsWith (.ListComp elt [⟨tge, iter, ifs, 0⟩] scope pos) (some (.Name y py)) spos.line X.env = pure true) (hi : PI X tge iter (tIt F P W mi)) (ok : BlkOk X.N X.env.scope scope own)
    (hg : ∀ (s : Shared) (H : Hp) (C : Addr) (cl : List (Str × Addr)) (fp : List Addr), PG (X.blk s H scope (compEnvC scope cl C X.env) fp) tge (tgG F P is tg))
    (ht : ∀ (s : Shared) (H : Hp) (C : Addr) (cl : List (Str × Addr)) (fp : List Addr), PTs (X.blk s H scope (compEnvC scope cl C X.env) fp) ifs (tTB F W0 mt))
    (he : ∀ (s : Shared) (H : Hp) (C : Addr) (cl : List (Str × Addr)) (fp : List Addr), PE (X.blk s H scope (compEnvC scope cl C X.env) fp) elt (tE F W0 me)) (hs : ∀ x, foldedSetIterable iter X.env x = pure x := by intro _; rfl) :
    PS X (.Assign [.Name y py] (.ListComp elt [⟨tge, iter, ifs, 0⟩] scope pos) spos) (tS F W (.asg (M.lc mi (own.map (·.2)) tg mt me) (tgN i))) :=
  (ps_setLc cx.calm cx.nd hy hyl hsw hi ok hg ht he hs).imp fun D σ H ⟨ρ, S, Z, sl, rh, h⟩ => lcT his σ H (fun x H1 => gName i x σ H1 D.nx) ⟨ρ, S, Z, sl, rh, exprS (Q := fun d S1 => ∃ ρ', tgN i d ρ = some ρ' ∧ nxS F D H S Z ρ' S1) sl h fun v d H1 S1 st r sl1 q => by
    obtain ⟨ρ', e, q⟩ := q
    cases e
    exact q _ H1 st (sl1.set i r)⟩
variable {tge1 iter1 : Expr} {vs1 is1 : List Nat} {mi1 : M (List D)} {tg1 : Tg}
theorem s_setLc2 (cx : CtxOk F X) (his : ∀ i ∈ is, i ∈ own.map (·.2)) (his1 : ∀ i ∈ is1, i ∈ vs1) (hy : X.N[i]? = some y) (hyl : X.env.scope.names.lookup y = some .local)
    (hsw : swapsWith (.ListComp elt [⟨tge, iter, [], 0⟩, ⟨tge1, iter1, ifs, 0⟩] scope pos) (some (.Name y py)) spos.line X.env = pure true) (hi : PI X tge iter (tIt F P W mi)) (ok : BlkOk X.N X.env.scope scope own) (hv : ∀ i ∈ vs1, i ∈ own.map (·.2))
    (hg : ∀ (s : Shared) (H : Hp) (C : Addr) (cl : List (Str × Addr)) (fp : List Addr), PG (X.blk s H scope (compEnvC scope cl C X.env) fp) tge (tgG F P is tg))
    (hi1 : ∀ (s : Shared) (H : Hp) (C : Addr) (cl : List (Str × Addr)) (fp : List Addr), PI (X.blk s H scope (compEnvC scope cl C X.env) fp) tge1 iter1 (tIt F P1 W0 mi1))
    (hg1 : ∀ (s : Shared) (H : Hp) (C : Addr) (cl : List (Str × Addr)) (fp : List Addr), PG (X.blk s H scope (compEnvC scope cl C X.env) fp) tge1 (tgG F P1 is1 tg1))
    (ht1 : ∀ (s : Shared) (H : Hp) (C : Addr) (cl : List (Str × Addr)) (fp : List Addr), PTs (X.blk s H scope (compEnvC scope cl C X.env) fp) ifs (tTB F W0 mt))
    (he : ∀ (s : Shared) (H : Hp) (C : Addr) (cl : List (Str × Addr)) (fp : List Addr), PE (X.blk s H scope (compEnvC scope cl C X.env) fp) elt (tE F W0 me)) (hs : ∀ x, foldedSetIterable iter X.env x = pure x := by intro _; rfl)
    (hs1 : ∀ env x, foldedSetIterable iter1 env x = pure x := by intro _ _; rfl) :
    PS X (.Assign [.Name y py] (.ListComp elt [⟨tge, iter, [], 0⟩, ⟨tge1, iter1, ifs, 0⟩] scope pos) spos) (tS F W (.asg (M.lc2 mi (own.map (·.2)) tg mi1 vs1 tg1 mt me) (tgN i))) :=
  (ps_setLc2 cx.calm cx.nd hy hyl hsw hi ok hv hg (fun _ _ _ _ _ => pts_nil) hi1 hg1 ht1 he hs hs1).imp fun D σ H ⟨ρ, S, Z, sl, rh, h⟩ => lcT2 his his1 σ H (fun x H1 => gName i x σ H1 D.nx) ⟨ρ, S, Z, sl, rh, exprS (Q := fun d S1 => ∃ ρ', tgN i d ρ = some ρ' ∧ nxS F D H S Z ρ' S1) sl h fun v d H1 S1 st r sl1 q => by
    obtain ⟨ρ', e, q⟩ := q
    cases e
    exact q _ H1 st (sl1.set i r)⟩
/-! ### ranges as values -/
def rgD (a b : Int) : Option (List D) := if 0 ≤ a ∧ a ≤ 16777216 ∧ 0 ≤ b ∧ b ≤ 16777216 then some (rngL a b) else none
theorem rgD_eq {a b : Int} {ds : List D} (h : rgD a b = some ds) : RgOk a b ∧ ds = rngL a b := by
  unfold rgD at h
  split at h
  · rename_i hh
    cases h
    exact ⟨RgOk.of_le hh.1 hh.2.2.2 hh.2.1 hh.2.2.1, rfl⟩
  · cases h
theorem rep_rng (a b : Int) : RepA F H S Z (rgV a b) (rngL a b) := by
  unfold rgV rngL
  induction List.range (b - a).toNat with
  | nil => exact .nil
  | cons i l ih => exact .cons (.int _) ih
variable {a b e : Expr} {ma mb : M D} {p p2 pos2 : Pos}
def M.rg1 (ma : M D) : M (List D) := ma.bind fun d => .opt fun _ => (asI d).bind fun n => rgD 0 n
def M.rg2 (ma mb : M D) : M (List D) := ma.bind fun d => mb.bind fun d2 => .opt fun _ => (asI d).bind fun n => (asI d2).bind fun n2 => rgD n n2
def M.lstV (t : M (List D)) : M D := t.bind fun ds => .val (.list ds)
def M.tupV (t : M (List D)) : M D := t.bind fun ds => .val (.tuple ds)
theorem rgT1 {T : TE} {K : Int → Int → Hp → VK → Prop} (hT : ∀ σ H Q, (tRg1 (tE F W ma) σ H fun a b H1 => K a b H1 Q) → T σ H Q) {f : List D → M D}
    (hk : ∀ {σ ρ H S} {a b : Int} {Q : VK}, RelH F H S Z → RgOk a b → runG F W (rD F) σ ρ H S Z (f (rngL a b)) Q → K a b H Q) : ∀ σ H Q (ρ : Lo) (S : Sto), Sl F H S Z σ ρ → RelH F H S Z → runG F W (rD F) σ ρ H S Z ((M.rg1 ma).bind f) Q → T σ H Q :=
  fun σ H Q ρ S sl rh h => hT σ H Q ⟨ρ, S, Z, sl, rh, run_step (m := ma) (f := fun d => (M.opt fun _ => (asI d).bind fun n => rgD 0 n).bind f) sl h fun v d H1 S1 s1 r sl1 h1 => by
    obtain ⟨ds, e, q⟩ := h1
    rw [Option.bind_eq_some_iff] at e
    obtain ⟨n, e1, e2⟩ := e
    obtain ⟨ok, rfl⟩ := rgD_eq e2
    rw [asI_eq e1] at r
    cases r
    exact ⟨n, rfl, hk s1.2 ok q⟩⟩
theorem rgT2 {T : TE} {K : Int → Int → Hp → VK → Prop} (hT : ∀ σ H Q, (tRg2 (tE F W ma) (tE F W mb) σ H fun a b H1 => K a b H1 Q) → T σ H Q) {f : List D → M D}
    (hk : ∀ {σ ρ H S} {a b : Int} {Q : VK}, RelH F H S Z → RgOk a b → runG F W (rD F) σ ρ H S Z (f (rngL a b)) Q → K a b H Q) : ∀ σ H Q (ρ : Lo) (S : Sto), Sl F H S Z σ ρ → RelH F H S Z → runG F W (rD F) σ ρ H S Z ((M.rg2 ma mb).bind f) Q → T σ H Q :=
  fun σ H Q ρ S sl rh h => hT σ H Q ⟨ρ, S, Z, sl, rh, run_step (m := ma) (f := fun d => (mb.bind fun d2 => M.opt fun _ => (asI d).bind fun n => (asI d2).bind fun n2 => rgD n n2).bind f) sl h fun v d H1 S1 s1 r sl1 h1 => ⟨ρ, S1, Z, sl1, s1.2, run_step (m := mb) (f := fun d2 => (M.opt fun _ => (asI d).bind fun n => (asI d2).bind fun n2 => rgD n n2).bind f) sl1 h1 fun v2 d2 H2 S2 s2 r2 sl2 h2 => by
    obtain ⟨ds, e, q⟩ := h2
    rw [Option.bind_eq_some_iff] at e
    obtain ⟨n, e1, e⟩ := e
    rw [Option.bind_eq_some_iff] at e
    obtain ⟨n2, e2, e3⟩ := e
    obtain ⟨ok, rfl⟩ := rgD_eq e3
    rw [asI_eq e1] at r
    rw [asI_eq e2] at r2
    cases r
    cases r2
    exact ⟨n, n2, rfl, rfl, hk s2.2 ok q⟩⟩⟩
section
variable (cx : CtxOk F X) (hg2 : Gl X "range") (hm2 : X.mg "range" = none)
include cx hg2 hm2
theorem e_listRg1 (hg : Gl X "list") (hm : X.mg "list" = none) (ha : PE X a (tE F W ma)) (na : starEach [a] X.env = (false, eval a X.env) :: starEach [] X.env := by rfl)
    (na2 : starEach [.Call (.Name "range" p2) [a] [] pos2] X.env = (false, eval (.Call (.Name "range" p2) [a] [] pos2) X.env) :: starEach [] X.env := by rfl) :
    PE X (.Call (.Name "list" p) [.Call (.Name "range" p2) [a] [] pos2] [] pos) (tE F W (M.lstV (M.rg1 ma))) :=
  (pe_listRg cx.calm hg hm (prg_1 hg2 hm2 ha na) na2).imp fun σ H Q ⟨ρ, S, Z, sl, rh, h⟩ => rgT1 (f := fun ds => .val (.list ds)) (K := fun a b H1 Q => RgOk a b ∧ ∀ q, H1 q = none → Q (.ref q) (upd H1 q (.lst (rgV a b)))) (fun _ _ _ h => h)
    (fun rh ok k => ⟨ok, fun q n => k _ _ (.same rh (same_upd n)) (Rep.newL rh n (rep_rng _ _))⟩) σ H Q ρ S sl rh h
theorem e_listRgC (hg : Gl X "list") (hm : X.mg "list" = none) (ha : PE X a (tE F W ma)) (na : starEach [a] X.env = (false, eval a X.env) :: starEach [] X.env := by rfl)
    (na2 : starEach [.Call (.Name "range" p2) [a] [] pos2] X.env = (false, eval (.Call (.Name "range" p2) [a] [] pos2) X.env) :: starEach [] X.env := by rfl) :
    PE X (.Call (.Name "list" p) [.Call (.Name "range" p2) [a] [] pos2] [] pos) (tE F W ((M.rg1 ma).bind M.mkc)) :=
  (pe_listRg cx.calm hg hm (prg_1 hg2 hm2 ha na) na2).imp fun σ H Q ⟨ρ, S, Z, sl, rh, h⟩ => rgT1 (f := M.mkc) (K := fun a b H1 Q => RgOk a b ∧ ∀ q, H1 q = none → Q (.ref q) (upd H1 q (.lst (rgV a b)))) (fun _ _ _ h => h)
    (fun rh ok k => ⟨ok, fun p hp => k.2 p (rh.free hp).1 _ _ ⟨ext_newC hp, rh.newC hp (rep_rng _ _)⟩ (.ref p)⟩) σ H Q ρ S sl rh h
theorem e_tupRg1 (hg : Gl X "tuple") (hm : X.mg "tuple" = none) (ha : PE X a (tE F W ma)) (na : starEach [a] X.env = (false, eval a X.env) :: starEach [] X.env := by rfl)
    (na2 : starEach [.Call (.Name "range" p2) [a] [] pos2] X.env = (false, eval (.Call (.Name "range" p2) [a] [] pos2) X.env) :: starEach [] X.env := by rfl) :
    PE X (.Call (.Name "tuple" p) [.Call (.Name "range" p2) [a] [] pos2] [] pos) (tE F W (M.tupV (M.rg1 ma))) :=
  (pe_tupRgF cx.calm hg hm (prg_1 hg2 hm2 ha na) na2).imp fun σ H Q ⟨ρ, S, Z, sl, rh, h⟩ => rgT1 (f := fun ds => .val (.tuple ds)) (K := fun a b H1 Q => RgOk a b ∧ ∀ q its, H1 q = none → Q (.ref q) (upd H1 q (.frz (tupObj its) (.tup (rgV a b))))) (fun _ _ _ h => h)
    (fun rh ok k => ⟨ok, fun q its n => k _ _ (.same rh (same_upd n)) (Rep.newT rh n (rep_rng _ _))⟩) σ H Q ρ S sl rh h
theorem e_tupRg2 (hg : Gl X "tuple") (hm : X.mg "tuple" = none) (ha : PE X a (tE F W ma)) (hb : PE X b (tE F W mb)) (na : starEach [a, b] X.env = (false, eval a X.env) :: starEach [b] X.env := by rfl) (nb : starEach [b] X.env = (false, eval b X.env) :: starEach [] X.env := by rfl) (hp : (backTo pos2 (starEach [b] X.env)).any (·.1) = false := by rfl)
    (na2 : starEach [.Call (.Name "range" p2) [a, b] [] pos2] X.env = (false, eval (.Call (.Name "range" p2) [a, b] [] pos2) X.env) :: starEach [] X.env := by rfl) :
    PE X (.Call (.Name "tuple" p) [.Call (.Name "range" p2) [a, b] [] pos2] [] pos) (tE F W (M.tupV (M.rg2 ma mb))) :=
  (pe_tupRgF cx.calm hg hm (prg_2 hg2 hm2 ha hb na nb hp) na2).imp fun σ H Q ⟨ρ, S, Z, sl, rh, h⟩ => rgT2 (f := fun ds => .val (.tuple ds)) (K := fun a b H1 Q => RgOk a b ∧ ∀ q its, H1 q = none → Q (.ref q) (upd H1 q (.frz (tupObj its) (.tup (rgV a b))))) (fun _ _ _ h => h)
    (fun rh ok k => ⟨ok, fun q its n => k _ _ (.same rh (same_upd n)) (Rep.newT rh n (rep_rng _ _))⟩) σ H Q ρ S sl rh h
end
end
end EN

/-! == E8 == -/
set_option Elab.async false
set_option linter.all false
set_option maxRecDepth 100000
set_option maxHeartbeats 4000000
set_option autoImplicit false
/-! E8: short words for the printed proofs. -/
namespace EN
open PySem PySem.Spec PyProof.Rows L2
section
variable {F : Fx} {X : Cx} {W : WX}
theorem ev (i : Nat) {x : Str} {pos : Pos} (hN : X.N[i]? = some x := by rfl) (hv : Vis X.env.scope x := by first | exact Or.inl rfl | exact Or.inr (Or.inl rfl) | exact Or.inr (Or.inr rfl)) (hd : (x == ("__debug__" : Str)) = false := by decide)
    (hcd : (x == ("__classdict__" : Str)) = false := by decide) : PE X (.Name x pos) (tE F W (.var i)) := e_var hN hv hd hcd
/-- a global number or text; a global def -/
structure GlC (F : Fx) (x : Str) (d : D) : Prop where
  ex : ∃ (v : V) (u : Value), F.mg x = some u ∧ RelV v u ∧ ∀ H S Z, Rep F H S Z v d
theorem GlC.e {x : Str} {d : D} {pos : Pos} (g : GlC F x d) (hg : Gl X x) (hmg : X.mg = F.mg := by rfl) (hd : (x == ("__debug__" : Str)) = false := by decide) : PE X (.Name x pos) (tE F W (.val d)) := by
  obtain ⟨v, u, h1, h2, h3⟩ := g.ex
  exact e_glob hg (by rw [hmg]; exact h1) h2 h3 hd
abbrev GlF (F : Fx) (x : Str) : Prop := GlC F x (fnD x)
def intD : D → Option D
  | .int i => some (.int i)
  | .bool b => some (.int (if b then 1 else 0))
  | _ => none
theorem int_ok (c : CtxOk F X) : Call1 F X (.type "int") intD := by
  intro pins s σ H xs us Q I r h
  obtain ⟨S, Z, x, dx, d, rfl, hR, hx, hg, q⟩ := h
  cases dx with
  | int i => cases hg; cases hx.int; exact call_int1 pins s σ H _ us Q I r (.inl ⟨_, rfl, q _ _ (Same.refl _) (.int _)⟩)
  | bool i => cases hg; cases hx.bl; exact call_int1 pins s σ H _ us Q I r (.inr ⟨_, rfl, q _ _ (Same.refl _) (.int _)⟩)
  | _ => cases hg
theorem e_neg {i : Int} {pos p2 : Pos} {j : Nat} : PE X (.UnaryOp .USub (.Constant (.int i) j p2) pos) (tE F W (.val (.int (-i)))) :=
  (pe_un un_neg pe_int).imp fun σ H Q ⟨ρ, S, Z, sl, rh, h⟩ => ⟨i, rfl, runG_val rh h (.int _)⟩
end
end EN



/-! == E9 == -/
set_option Elab.async false
set_option linter.all false
set_option maxRecDepth 100000
set_option maxHeartbeats 4000000
set_option autoImplicit false
/-! E9: lambdas handed to a def; calls of what a name holds. -/
namespace EN
open PySem PySem.Spec PyProof.Rows L2 LamX NdefX
section
variable {X : Cx} {pins : List (Addr × Obj)} {σ : L2.St} {H : Hp} {s : Shared}
theorem mod_up {K : PySem.W.Frag} {mg : Str → Option Value} {b b' : Heap} (m : Mod K mg b) (k : ∀ a o, b.get? a = some o → b'.get? a = some o) : Mod K mg b' :=
  ⟨m.kin.keeps k, m.glob.keeps k, m.blt.elim fun mb h => ⟨mb, h.1.keeps k, h.2⟩, m.nolimit.keeps k⟩
theorem frames_sub {h b b' : Heap} : ∀ {l : List Env}, h.FunFrames b l → (∀ L ∈ frs l, b'.get? L = none) → h.FunFrames b' l
  | [], _, _ => trivial
  | env :: rest, ⟨hk, ⟨L, o, hf, hb, ho, hd⟩, hr⟩, n =>
    ⟨hk, ⟨L, o, hf, n L (by unfold frs; rw [List.filterMap_cons, hf]; exact List.mem_cons_self), ho, hd⟩, frames_sub hr fun M hM => n M (by unfold frs; rw [List.filterMap_cons, hf]; exact List.mem_cons_of_mem _ hM)⟩
/-- more of the heap counts as ground from now on -/
theorem base_up (I : Inv X pins σ H s) (adds : List Addr) (h : ∀ b ∈ adds, H b = none ∧ b ∉ frs X.stack) :
    ∃ base' : Heap, X.base.objs.size ≤ base'.objs.size ∧ (∀ b o, X.base.get? b = some o → base'.get? b = some o) ∧ (∀ b ∈ adds, ∀ o, s.heap.get? b = some o → base'.get? b = some o) ∧ Env0 X.prog X.w X.K X.mg base' X.A X.stack s H := by
  have e0 := I.env0
  let l := (List.range s.heap.objs.size).filter fun b => !((X.base.get? b).isSome || decide (b ∈ adds))
  have keep : ∀ b o, s.heap.get? b = some o → ((X.base.get? b).isSome = true ∨ b ∈ adds) → (PySem.W.hideAll s.heap l).get? b = some o := fun b o e q => PySem.W.hideAll_get l e fun hm => by
    have := (List.mem_filter.mp hm).2
    rcases q with q | q
    · rw [q] at this; simp at this
    · simp [q] at this
  have back : ∀ b o, (PySem.W.hideAll s.heap l).get? b = some o → s.heap.get? b = some o ∧ ((X.base.get? b).isSome = true ∨ b ∈ adds) := fun b o e => by
    have e1 := PySem.W.of_hideAll l e
    refine ⟨e1, ?_⟩
    by_cases hb : b ∈ l
    · rw [PySem.W.hideAll_none l hb] at e; cases e
    · have hr : b ∈ List.range s.heap.objs.size := List.mem_range.mpr (Heap.lt_size e1)
      have : ¬ (!((X.base.get? b).isSome || decide (b ∈ adds))) = true := fun z => hb (List.mem_filter.mpr ⟨hr, z⟩)
      by_cases q : (X.base.get? b).isSome = true
      · exact .inl q
      · rw [Bool.eq_false_iff.mpr q] at this
        exact .inr (by simpa using this)
  have up : ∀ b o, X.base.get? b = some o → (PySem.W.hideAll s.heap l).get? b = some o := fun b o e => keep b o (e0.bs b o e).1 (.inl (by rw [e]; rfl))
  refine ⟨PySem.W.hideAll s.heap l, by rw [PySem.W.hideAll_size]; exact e0.bsz, up, fun b hb o e => keep b o e (.inr hb), ⟨e0.frames, mod_up e0.mod up, fun b o e => ?_, by rw [PySem.W.hideAll_size]; exact Nat.le_refl _, frames_sub e0.funs fun L hL => ?_, e0.frf, e0.hok, e0.bare⟩⟩
  · obtain ⟨e1, q⟩ := back b o e
    refine ⟨e1, ?_⟩
    rcases q with q | q
    · obtain ⟨o', e2⟩ := Option.isSome_iff_exists.mp q
      exact (e0.bs b o' e2).2
    · exact (h b q).1
  · cases e : (PySem.W.hideAll s.heap l).get? L with
    | none => rfl
    | some o =>
      obtain ⟨e1, q⟩ := back L o e
      rcases q with q | q
      · obtain ⟨n, _⟩ := e0.funs.mem (b := L) hL
        rw [n] at q; cases q
      · exact absurd hL (h L q).2
end
/-! ### one setting told in another's words -/
section
variable {F F' : Fx} {H : Hp} {S : Sto} {Z : Addr → Prop}
mutual
theorem Rep.conv (hm : F'.mg = F.mg) (hK : F'.K = F.K) : ∀ {v : V} {d : D}, Rep F H S Z v d → Rep F' H S Z v d
  | _, _, .non => .non
  | _, _, .bl b => .bl b
  | _, _, .int i => .int i
  | _, _, .str x => .str x
  | _, _, .lst h s r => .lst h s (RepA.conv hm hK r)
  | _, _, .tup h s r => .tup h s (RepA.conv hm hK r)
  | _, _, .ref a => .ref a
  | _, _, .fn h k => .fn (by rw [hm]; exact h) (by rw [hK]; exact k)
  | _, _, .dic h s r => .dic h s (RepK.conv hm hK r)
theorem RepA.conv (hm : F'.mg = F.mg) (hK : F'.K = F.K) : ∀ {vs : List V} {ds : List D}, RepA F H S Z vs ds → RepA F' H S Z vs ds
  | _, _, .nil => .nil
  | _, _, .cons r t => .cons (Rep.conv hm hK r) (RepA.conv hm hK t)
theorem RepK.conv (hm : F'.mg = F.mg) (hK : F'.K = F.K) : ∀ {vs : List (Key × V)} {ds : List (D × D)}, RepK F H S Z vs ds → RepK F' H S Z vs ds
  | _, _, .nil => .nil
  | _, _, .cons r t => .cons (Rep.conv hm hK r) (RepK.conv hm hK t)
end
/-- F' knows all that F knows -/
structure FxLe (F F' : Fx) : Prop where
  mg : F'.mg = F.mg
  K : F'.K = F.K
  T : F'.T = F.T
  scr : F'.scr = F.scr
  cod : ∀ p ∈ F.cod, p ∈ F'.cod
  cap : ∀ p ∈ F.cap, p ∈ F'.cap
  xds : ∀ p ∈ F.xds, p ∈ F'.xds
theorem FxLe.refl (F : Fx) : FxLe F F := ⟨rfl, rfl, rfl, rfl, fun _ h => h, fun _ h => h, fun _ h => h⟩
theorem FxLe.trans {F1 F2 F3 : Fx} (a : FxLe F1 F2) (b : FxLe F2 F3) : FxLe F1 F3 := ⟨b.mg.trans a.mg, b.K.trans a.K, b.T.trans a.T, b.scr.trans a.scr, fun p h => b.cod p (a.cod p h), fun p h => b.cap p (a.cap p h), fun p h => b.xds p (a.xds p h)⟩
theorem CellOk.conv (hm : F'.mg = F.mg) (hK : F'.K = F.K) {a : Addr} {c : Cell} (h : CellOk F H S Z a c) : CellOk F' H S Z a c := by
  cases c with
  | lst ds => obtain ⟨vs, h1, h2⟩ := h; exact ⟨vs, h1, h2.conv hm hK⟩
  | ins C fs => obtain ⟨Ca, dx, vfs, h0, h1, h2, h3, h4, h5⟩ := h; exact ⟨Ca, dx, vfs, by rw [hm]; exact h0, h1, h2, h3, h4, h5.conv hm hK⟩
/-- less is known -/
theorem RelH.down (le : FxLe F F') (h : RelH F' H S Z) : RelH F H S Z :=
  ⟨fun a c q => (h.cells a c q).conv le.mg.symm le.K.symm, h.zone, fun a ns q => by
    have := h.scr a ns (by rw [le.scr]; exact q)
    unfold ScrOk at this ⊢
    rw [← le.K]
    exact this, by rw [← le.T]; exact h.tabs, fun p z => h.cod p (le.cod p z), fun p hp => (h.cap p (le.cap p hp)).conv le.mg.symm le.K.symm, fun x hx => h.xds x (le.xds x hx)⟩
/-- more is known: what was known at the start is so later on -/
theorem RelH.up {H0 : Hp} {S0 : Sto} (le : FxLe F F') (h0 : RelH F' H0 S0 Z) (e : Ext H0 S0 H S) (h : RelH F H S Z) : RelH F' H S Z :=
  ⟨fun a c q => (h.cells a c q).conv le.mg le.K, h.zone, fun a ns q => by
    have := h.scr a ns (by rw [← le.scr]; exact q)
    unfold ScrOk at this ⊢
    rw [le.K]
    exact this, by rw [le.T]; exact h.tabs, fun p z => e p.1 _ (h0.cod p z).1 (h0.cod p z).2 (fun _ => codeO_ne _), fun p hp => (h0.cap p hp).mono e, fun x hx => (h0.xds x hx).1.elim fun fs q => have z := e x _ q (h0.xds x hx).2 (fun _ => nofun); ⟨⟨fs, z.1⟩, z.2⟩⟩
theorem spD_down {n : Nat} {c : C2} (le : FxLe F F') {vs : List V} {Q : VK} {E : XK} (h : spD F' n c vs H Q E) : spD F n c vs H Q E := by
  obtain ⟨S, Z, ds, hl, rh, ra, h⟩ := h
  refine ⟨S, Z, ds, hl, rh.down le, ra.conv le.mg.symm le.K.symm, c.mono (fun d S' q v H' st r => q v H' ⟨st.1, rh.up le st.1 st.2⟩ (r.conv le.mg le.K)) (fun x S' q C d H' e st dk => q C d H' (by rw [le.mg]; exact e) ⟨st.1, rh.up le st.1 st.2⟩ dk) h⟩
end
/-- a def, whatever is known beside -/
def FnA (P : Program) (w : World) (F0 : Fx) (x : Str) (k n : Nat) (c : C2) : Prop := ∀ (F : Fx) (base : Heap), FxLe F0 F → FnD F P w base x k n c
/-- a thing that can be called: what it does -/
structure CloD (F : Fx) (P : Program) (w : World) (base : Heap) (f : Addr) (k n : Nat) (c : C2) : Prop where
  fn : PySem.W.FnAt f base
  run : ∀ (A : Around) (outer : List Env) (s : Shared) (H : Hp) (us : List Value) (vs : List V) (Q : VK) (E : XK), Room k A → Env0 P w F.K F.mg base A outer s H → Vals vs us → spD F n c vs H Q E → codeAny (model P w) A (.call (.ref f) ⟨us, []⟩) (CR (L2N.CX P w) outer P w H s Q E) s
inductive CalD (F : Fx) (P : Program) (w : World) (base : Heap) : D → Nat → Nat → C2 → Prop
  | clo {f : Addr} {k n : Nat} {c : C2} : CloD F P w base f k n c → CalD F P w base (refD f) k n c
  | fn {x : Str} {k n : Nat} {c : C2} : FnD F P w base x k n c → CalD F P w base (fnD x) k n c
theorem env0_down {P : Program} {w : World} {K : PySem.W.Frag} {mg : Str → Option Value} {b b' : Heap} {A : Around} {outer : List Env} {s : Shared} {H : Hp} (m : Mod K mg b) (k : ∀ a o, b.get? a = some o → b'.get? a = some o) (hz : b.objs.size ≤ b'.objs.size) (e : Env0 P w K mg b' A outer s H) : Env0 P w K mg b A outer s H :=
  have fr : ∀ L ∈ frs outer, b.get? L = none := fun L hL => by
    have h1 := (e.funs.mem (b := L) hL).1
    cases q : b.get? L with
    | none => rfl
    | some o => rw [k L o q] at h1; cases h1
  ⟨e.frames, m, fun a o h => e.bs a o (k a o h), Nat.le_trans hz e.bsz, frames_sub e.funs fr, e.frf, e.hok, e.bare⟩
/-- one base in another -/
structure BaseLe (K : PySem.W.Frag) (mg : Str → Option Value) (b b' : Heap) : Prop where
  md : Mod K mg b
  up : ∀ a o, b.get? a = some o → b'.get? a = some o
  sz : b.objs.size ≤ b'.objs.size
theorem CloD.up {F F' : Fx} {P : Program} {w : World} {b b' : Heap} {f : Addr} {k n : Nat} {c : C2} (le : FxLe F F') (bl : BaseLe F.K F.mg b b') (h : CloD F P w b f k n c) : CloD F' P w b' f k n c :=
  ⟨h.fn.elim fun oc h => h.elim fun od h => h.elim fun fd h => h.elim fun sl h => ⟨oc, od, fd, sl, bl.up _ _ h⟩, fun A outer s H us vs Q E hr e0 r sp =>
    h.run A outer s H us vs Q E hr (env0_down bl.md bl.up bl.sz (by rw [← le.K, ← le.mg]; exact e0)) r (spD_down le sp)⟩
/-- what a lambda does: its body, on its arguments and what it has caught -/
def lamC (len : Nat) (caps : List D) (body : M D) : C2 := ⟨fun ds S Q E => body.run (ds.map some ++ (caps.map some ++ List.replicate (len - ds.length - caps.length) none)) S Q E, fun q e h => body.mono q e h⟩
/-- g(lambda.., ..): cG tells what g does by what its first argument does -/
def M.lam (n len : Nat) (js : List Nat) (body : M D) (cG : C2 → Addr → C2) (t : M (List D)) : M D :=
  ⟨fun ρ S Q E => ∃ caps : List D, js.map (fun j => ρ[j]?) = caps.map (fun d => some (some d)) ∧ t.run ρ S (fun ds S2 => ds.length = n ∧ ∀ f, (cG (lamC len caps body) f).run (refD f :: ds) S2 Q E) E,
    fun q e ⟨caps, h1, h⟩ => ⟨caps, h1, t.mono (fun ds S2 k => ⟨k.1, fun f => (cG _ f).mono q e (k.2 f)⟩) e h⟩⟩
section
variable {X : Cx} {pins : List (Addr × Obj)} {σ : L2.St} {H : Hp} {s : Shared} {F : Fx} {W : WX} {S S' : Sto} {Z : Addr → Prop} {ρ : Lo}
/-- the lambda at f runs -/
theorem lam_clo {P : Program} {w : World} {base : Heap} {N ps fr : List Str} {LF : NF} {f : Addr} {k : Nat} {pm ctv : Value} {body : Expr} {m : M D} {caps : List D} {ws : List V}
    (Sc : NScope N ps fr LF.scope) (hl : N.length = ps.length + fr.length) (ho : base.get? f = some (PySem.W.kla_obj "<lambda>" LF.qual LF.params body LF.scope LF.cl pm LF.c ctv))
    (hb : ∀ us : List Value, us.length = ps.length → bindArgs (PySem.W.kla_fn "<lambda>" LF.qual LF.params body LF.scope LF.cl pm (.ref LF.c) ctv) ⟨us, []⟩ = pure (ps.zip us))
    (hc : (LF.c, LF.qual) ∈ F.cod) (hw : ws.length = fr.length) (hcl : ∀ (s : Shared) (H : Hp), (∀ b o, base.get? b = some o → s.heap.get? b = some o ∧ H b = none) → CellsAt LF.cl fr (ws.map some) s.heap H)
    (hcap : ∀ (i : Nat) (v : V) (d : D), ws[i]? = some v → caps[i]? = some d → (v, d) ∈ F.cap) (hlen : caps.length = ws.length)
    (body_ok : ∀ (A : Around) (outer : List Env) (s : Shared) (H : Hp) (E : XK), Gd F (ncx (L2N.CX P w) P w F.K F.mg base N LF f A outer s H E) (fun cls d _ H => E cls d H) k → PE (ncx (L2N.CX P w) P w F.K F.mg base N LF f A outer s H E) body (tE F (fun cls d _ H => E cls d H) m)) :
    CloD F P w base f (k + 1) ps.length (lamC N.length caps m) := by
  refine ⟨⟨_, _, _, _, ho⟩, fun A outer s H us vs Q E hr e0 r sp => ?_⟩
  obtain ⟨S, Z, ds, hvl, rh, ra, h⟩ := sp
  have hs : s.heap.get? f = some (PySem.W.kla_obj "<lambda>" LF.qual LF.params body LF.scope LF.cl pm LF.c ctv) := (e0.bs _ _ ho).1
  have C := hcl s H e0.bs
  have lim : s.heap.NoLimit := e0.mod.nolimit.keeps fun b o e => (e0.bs b o e).1
  have hcr := codeO_at e0.hok (rh.cod _ hc).1
  refine PySem.W.kla_callFunE hr.depth hs rfl Sc.co Sc.gen rfl hcr ?_
  rw [hb us (by rw [← r.length]; exact hvl)]
  refine wpAny_pure (wpAny_newFunctionEnv Sc.nocell (fun ⟨n, _⟩ hy => Sc.par n (List.of_mem_zip hy).1) (fun h₁ hns hsb => ⟨lim.fresh _ hsb, ?_⟩) Sc.kind)
  show codeAny _ _ (.expr body (envF LF f s.heap.objs.size)) _ _
  have kp : ∀ b o, s.heap.get? b = some o → h₁.get? b = some o := fun b o e => hsb.extBut b o (Nat.ne_of_lt (Heap.lt_size e)) (Heap.get?_push_of_some _ e)
  have I : Inv (ncx (L2N.CX P w) P w F.K F.mg base N LF f A outer s H E) [] (startF N vs (ws.map some)) H { s with heap := h₁, toks := s.toks + (ps.zip us).length } := inv_startN Sc hr.hd e0 hvl r C hns kp
  have rm : Room k (A.deeper (envF LF f s.heap.objs.size)) := hr.deeper _
  have g : Gd F (ncx (L2N.CX P w) P w F.K F.mg base N LF f A outer s H E) (fun cls d _ H => E cls d H) k :=
    ⟨⟨rfl, rfl, rfl, Sc.nd, by have := rm.un; show (A.deeper (envF LF f s.heap.objs.size)).units + 66 < cLine; omega⟩, L2N.takes_of rfl rfl rfl rfl, rm, passes_of rfl⟩
  have hdl : ds.length = vs.length := ra.length.symm
  refine PySem.W.kla_codeExpr (wpAny_mono ((body_ok A outer s H E g).run [] _ _ H Q I ⟨ds.map some ++ (caps.map some ++ List.replicate (N.length - ds.length - caps.length) none), S, Z, ?_, rh, ?_⟩) (fun v s' hq => ?_) fun e s' hq => hq)
  · refine ⟨?_, fun i d hi => ?_⟩
    · simp [startF]; omega
    · unfold startF
      by_cases h1 : i < ds.length
      · rw [List.getElem?_append_left (by rw [List.length_map]; exact h1), List.getElem?_map] at hi
        rw [List.getElem?_append_left (by rw [List.length_map]; omega), List.getElem?_map]
        cases e : ds[i]? with
        | none => rw [e] at hi; cases hi
        | some d' =>
          rw [e] at hi
          cases hi
          obtain ⟨v, g1, g2⟩ := ra.get e
          exact ⟨v, by rw [g1]; rfl, g2⟩
      · rw [List.getElem?_append_right (by rw [List.length_map]; omega), List.length_map] at hi
        rw [List.getElem?_append_right (by rw [List.length_map]; omega)]
        have el : (vs.map some).length = ds.length := by rw [List.length_map, hdl]
        rw [el]
        by_cases h2 : i - ds.length < caps.length
        · rw [List.getElem?_append_left (by rw [List.length_map]; exact h2), List.getElem?_map] at hi
          rw [List.getElem?_append_left (by rw [List.length_map]; omega), List.getElem?_map]
          cases e : caps[i - ds.length]? with
          | none => rw [e] at hi; cases hi
          | some d' =>
            rw [e] at hi
            cases hi
            have hw' : i - ds.length < ws.length := by omega
            refine ⟨ws[i - ds.length], by rw [List.getElem?_eq_getElem hw']; rfl, ?_⟩
            exact rh.cap _ (hcap _ _ _ (List.getElem?_eq_getElem hw') e)
        · rw [List.getElem?_append_right (by rw [List.length_map]; omega), List.getElem?_replicate] at hi
          split at hi <;> cases hi
  · have h : m.run _ S _ _ := h
    exact m.mono (fun d S' q v H' st rv => q v H' st rv) (fun x S' q C d H' e st dk => q C d H' e st dk) h
  · obtain ⟨w', H', J', rv, q⟩ := hq
    exact ⟨w', H', J'.os, J'.bare, J'.base, J'.hok, rv, q⟩
end
end EN

/-! == E9b == -/
set_option Elab.async false
set_option linter.all false
set_option maxRecDepth 100000
set_option maxHeartbeats 4000000
set_option autoImplicit false
/-! E9b: the call of a def with a lambda before its other arguments; the call of what a name holds. -/
namespace EN
open PySem PySem.Spec PyProof.Rows L2 LamX NdefX
section
variable {X : Cx} {pins : List (Addr × Obj)} {σ : L2.St} {H H1 H2 : Hp} {s : Shared} {F : Fx} {W : WX} {S S' : Sto} {Z : Addr → Prop} {ρ : Lo}
/-- the caught cells are no frames -/
def NoFr (X : Cx) (fr : List Str) : Prop := ∀ (pins : List (Addr × Obj)) (σ : L2.St) (H : Hp) (s : Shared), Inv X pins σ H s → ∀ y ∈ fr, ∀ c, X.env.cells.lookup y = some c → c ∉ frs X.stack
theorem noFr_own {fr : List Str} (h : ∀ y ∈ fr, X.fn y = true) : NoFr X fr := fun pins σ H s I y hy c hc hm => by
  rcases List.mem_cons.mp (I.stkSub c hm) with e | e
  · exact I.cne y c hc e
  · have h1 := I.ok.cab y c (h y hy) hc
    obtain ⟨_, o, ho, _⟩ := I.ok.funs.mem (b := c) e
    exact absurd (Heap.lt_size ho) (Nat.not_lt.mpr h1)
theorem relH_more {c' : Addr} {q : Str} {caps : List (V × D)} (rh : RelH F H S Z) (hc : H c' = some (CodeO c' q)) (hcap : ∀ p ∈ caps, Rep F H S Z p.1 p.2) :
    ∃ F' : Fx, FxLe F F' ∧ (c', q) ∈ F'.cod ∧ (∀ p ∈ caps, p ∈ F'.cap) ∧ RelH F' H S Z := by
  have sc : S c' = none := by
    cases e : S c' with
    | none => rfl
    | some c =>
      have k := rh.cells c' c e
      cases c with
      | lst ds => obtain ⟨vs, h1, _⟩ := k; rw [hc] at h1; cases h1
      | ins C fs => obtain ⟨_, _, _, _, h1, _⟩ := k; rw [hc] at h1; cases h1
  refine ⟨{ F with cod := (c', q) :: F.cod, cap := F.cap ++ caps }, ⟨rfl, rfl, rfl, rfl, fun p hp => List.mem_cons_of_mem _ hp, fun p hp => List.mem_append_left _ hp, fun _ h => h⟩, List.mem_cons_self, fun p hp => List.mem_append_right _ hp, ?_⟩
  let F' : Fx := { F with cod := (c', q) :: F.cod, cap := F.cap ++ caps }
  exact ⟨fun a c e => (rh.cells a c e).conv (F := F) (F' := F') rfl rfl, rh.zone, rh.scr, rh.tabs, fun p hp => by
    rcases List.mem_cons.mp hp with rfl | hp
    · exact ⟨hc, sc⟩
    · exact rh.cod p hp, fun p hp => by
    rcases List.mem_append.mp hp with hp | hp
    · exact (rh.cap p hp).conv (F := F) (F' := F') rfl rfl
    · exact (hcap p hp).conv (F := F) (F' := F') rfl rfl, rh.xds⟩
variable {g x : Str} {p lpos pos : Pos} {params : Arguments} {body : Expr} {scope : Scope} {es : List Expr} {t : M (List D)} {m : M D} {ps fr N : List Str} {js : List Nat} {k j jl n : Nat} {cG : C2 → Addr → C2} {cd P : Addr}
/-- what a lambda's place needs -/
structure LamOk (F : Fx) (X : Cx) (scope : Scope) (ps fr N : List Str) (js : List Nat) (cd P : Addr) : Prop where
  tb : X.K.In X.base → TabB X.base X.mg cd P
  code : X.env.code = .ref cd
  mem : (P, X.env.qual ++ "<lambda>") ∈ F.T
  uniq : ∀ p ∈ F.T, p.1 = P → p.2 = X.env.qual ++ "<lambda>"
  free : ∀ y ∈ scope.names, y.2 = .free → X.env.scope.names.lookup y.1 = some .cell ∨ X.env.scope.names.lookup y.1 = some .free
  caught : ∀ y ∈ fr, (y, NameKind.free) ∈ scope.names
  at_ : js.map (fun j => X.N[j]?) = fr.map some
  sc : NScope N ps fr scope
  len : N.length = ps.length + fr.length
  nf : NoFr X fr
structure GlA (F : Fx) (g : Str) : Prop where
  ex : ∃ ga : Addr, F.mg g = some (.ref ga) ∧ PySem.W.keepIn F.K (.ref ga) = true
theorem RelH.extN (h : RelH F H S Z) (e : ExtN H H1) (t : Tabs F.T H1) : RelH F H1 S Z := by
  have ex : Ext H S H1 S := fun a o h s n => ⟨e a o h n, s⟩
  refine ⟨fun a c q => ?_, fun a z => ⟨(h.zone a z).1, (h.zone a z).2.elim fun xs q => ⟨xs, e _ _ q (fun _ => nofun)⟩⟩, fun a ns q => (h.scr a ns q).mono ex, t, fun p hp => ⟨e _ _ (h.cod p hp).1 (fun _ => codeO_ne _), (h.cod p hp).2⟩, fun p hp => (h.cap p hp).mono ex, fun x hx => ⟨(h.xds x hx).1.elim fun fs q => ⟨fs, e _ _ q (fun _ => nofun)⟩, (h.xds x hx).2⟩⟩
  have k := h.cells a c q
  cases c with
  | lst ds => obtain ⟨vs, h1, h2⟩ := k; exact ⟨vs, e _ _ h1 (fun _ => nofun), h2.mono ex⟩
  | ins C fs => obtain ⟨Ca, dx, vfs, h0, h1, h2, h3, h4, h5⟩ := k; exact ⟨Ca, dx, vfs, h0, e _ _ h1 (fun _ => nofun), e _ _ h2 (fun _ => nofun), h3, h4, h5.mono ex⟩
/-- what the slots js hold -/
theorem caught_vals (sl : Sl F H S Z σ ρ) : ∀ {js : List Nat} {caps : List D}, js.map (fun j => ρ[j]?) = caps.map (fun d => some (some d)) →
    ∃ ws : List V, js.map (slotAt σ) = ws.map some ∧ RepA F H S Z ws caps
  | [], [], _ => ⟨[], rfl, .nil⟩
  | [], _ :: _, h => nomatch h
  | _ :: _, [], h => nomatch h
  | j :: js, d :: caps, h => by
    rw [List.map_cons, List.map_cons] at h
    injection h with h1 h2
    obtain ⟨ws, e1, e2⟩ := caught_vals (js := js) (caps := caps) sl h2
    obtain ⟨v, e3, e4⟩ := sl.get j d h1
    exact ⟨v :: ws, by rw [List.map_cons, List.map_cons, e1, slotAt_of e3], .cons e4 e2⟩
theorem mem_zip_get : ∀ {ws : List V} {caps : List D} {i : Nat} {v : V} {d : D}, ws[i]? = some v → caps[i]? = some d → (v, d) ∈ ws.zip caps
  | [], _, _, _, _, h, _ => by simp at h
  | _ :: _, [], _, _, _, _, h => by simp at h
  | w :: ws, c :: caps, 0, _, _, h1, h2 => by
    simp at h1 h2
    subst h1 h2
    exact List.mem_cons_self
  | w :: ws, c :: caps, i + 1, v, d, h1, h2 => List.mem_cons_of_mem _ (mem_zip_get (i := i) (by simpa using h1) (by simpa using h2))
theorem rep_zip : ∀ {ws : List V} {caps : List D}, RepA F H S Z ws caps → ∀ p ∈ ws.zip caps, Rep F H S Z p.1 p.2
  | _, _, .nil, p, hp => by simp at hp
  | _, _, .cons r t, p, hp => by
    rw [List.zip_cons_cons] at hp
    rcases List.mem_cons.mp hp with rfl | hp
    · exact r
    · exact rep_zip t p hp
theorem e_lam (gd : Gd F X W k) (fn : ∀ (F' : Fx) (base : Heap) (f : Addr) (cc : C2), FxLe F F' → CloD F' X.prog X.w base f (jl + 1) ps.length cc → FnD F' X.prog X.w base g j (n + 1) (cG cc f)) (hk : j ≤ k) (ga : GlA F g) (L : LamOk F X scope ps fr N js cd P) (hg : Gl X g)
    (hdef : defaultsOf params X.env = ([], [])) (hb : ∀ (q : Str) (cl : List (Str × Addr)) (pm cv ctv : Value) (us : List Value), us.length = ps.length → bindArgs (PySem.W.kla_fn "<lambda>" q params body scope cl pm cv ctv) ⟨us, []⟩ = pure (ps.zip us))
    (hbody : ∀ (F' : Fx) (base : Heap) (cl : List (Str × Addr)) (c' f : Addr) (A : Around) (outer : List Env) (s : Shared) (H : Hp) (E : XK), FxLe F F' → BaseLe F.K F.mg X.base base → Gd F' (ncx (L2N.CX X.prog X.w) X.prog X.w F'.K F'.mg base N ⟨"<lambda>", X.env.qual ++ "<lambda>", params, [], scope, cl, c'⟩ f A outer s H E) (fun cls d _ H => E cls d H) jl →
      PE (ncx (L2N.CX X.prog X.w) X.prog X.w F'.K F'.mg base N ⟨"<lambda>", X.env.qual ++ "<lambda>", params, [], scope, cl, c'⟩ f A outer s H E) body (tE F' (fun cls d _ H => E cls d H) m))
    (ht : PA X es (tL F W t)) (hdb : (g == ("__debug__" : Str)) = false := by decide) (he : starEach (.Lambda params body scope lpos :: es) X.env = (false, eval (.Lambda params body scope lpos) X.env) :: starEach es X.env := by rfl) (hpl : (backTo pos (starEach es X.env)).any (·.1) = false := by rfl) :
    PE X (.Call (.Name g p) (.Lambda params body scope lpos :: es) [] pos) (tE F W (M.lam n N.length js m cG t)) := by
  constructor
  rintro pins s σ H Q I ⟨ρ, S, Z, sl, rh, caps, ecap, h⟩
  obtain ⟨ga, hgm, hgk⟩ := ga.ex
  have hK := gd.cx.hK
  have hmg := gd.cx.hmg
  refine wpAny_Call_Name_kw (ld_glob I hg (by rw [hmg]; exact hgm) ?_ hdb)
  refine PySem.W.callWith_K (h₀ := X.base) I.ok.mod.kin (by rw [hK]; exact hgk) ?_ he hpl
  rw [he]
  show wpAny _ _ (spliced ((false, eval (.Lambda params body scope lpos) X.env) :: backTo pos (starEach es X.env))) _ _ s
  have hfree : ∀ (ok : X.Ok), ∀ y ∈ scope.names, y.2 = .free → ∃ c, X.env.cells.lookup y.1 = some c := fun ok y hy e => (L.free y hy e).elim (fun z => ok.has _ (.inl z)) fun z => ok.has _ (.inr z)
  refine Calls.spliced_cons (lam_make2 I (L.tb I.env0.mod.kin) L.code L.mem L.uniq rh.tabs hdef (hfree I.ok) fun f c' pm ctv H1 s1 I1 eN T1 hf hfn hfr hco => ?_)
  -- behind the lambda's making
  have st1 : Stp F H S Z H1 S := ⟨fun a o h s n => ⟨eN a o h n, s⟩, rh.extN eN T1⟩
  have hfs : f ∉ X.fs := fun z => hfr (by
    rcases I1.ok.stk with e | ⟨e, _⟩
    · rw [e]; exact z
    · rw [e]
      show f ∈ frs (X.env :: X.outer)
      unfold frs
      rw [List.filterMap_cons]
      split
      · exact z
      · exact List.mem_cons_of_mem _ z)
  have hfl : f ≠ X.env.locals := fun z => by
    obtain ⟨m0, ⟨o, es0, ep, ho, hd, _⟩, _⟩ := I1.loc
    rw [← z, hf] at ho
    cases ho
    cases hd
  have I1' := I1.pins_of (pins' := pins ++ [(f, PySem.W.kla_obj "<lambda>" (X.env.qual ++ "<lambda>") params body scope (cloFrom X.env.cells scope.names []) pm c' ctv)]) fun q hq => by
    rcases List.mem_append.mp hq with hq | hq
    · exact I1.pin q (List.mem_append_right _ hq)
    · rw [List.mem_singleton.mp hq]
      exact ⟨hf, hfn, hfl, hfs, fun v z => by cases z⟩
  have sl1 := sl.mono st1.1
  refine thn (ht.run pos _ s1 σ H1 (fun vs H2 => ∃ S2 ds, Stp F H S Z H2 S2 ∧ H2 c' = some (CodeO c' (X.env.qual ++ "<lambda>")) ∧ RepA F H2 S2 Z vs ds ∧ ds.length = n ∧
      ∀ f, (cG (lamC N.length caps m) f).run (refD f :: ds) S2 (fun d S' => ∀ v H', Stp F H S Z H' S' → Rep F H' S' Z v d → Q v H') (xW F W σ H S Z)) I1' ⟨ρ, S, Z, sl1, st1.2, t.mono (fun ds S2 hk vs H2 st2 ra => ?_) (fun x S2 hk => xW_mono st1 hk) h⟩) ?_
  · refine ⟨S2, ds, st1.trans st2, (st2.1 c' _ hco ?_ (fun _ => codeO_ne _)).1, ra, hk.1, hk.2⟩
    cases e : S c' with
    | none => rfl
    | some c =>
      have kk := st1.2.cells c' c e
      cases c with
      | lst ds => obtain ⟨vs, h1, _⟩ := kk; rw [hco] at h1; cases h1
      | ins C fs => obtain ⟨_, _, _, _, h1, _⟩ := kk; rw [hco] at h1; cases h1
  rintro us s2 ⟨vs, H2, I2, r2, S2, ds, st2, hco2, ra, hn, hrun⟩
  have hp2 := I2.pin (f, PySem.W.kla_obj "<lambda>" (X.env.qual ++ "<lambda>") params body scope (cloFrom X.env.cells scope.names []) pm c' ctv) (List.mem_append_right _ (List.mem_append_right _ (List.mem_singleton.mpr rfl)))
  have sl2 := sl.mono st2.1
  obtain ⟨ws, ew, rw_⟩ := caught_vals sl2 ecap
  refine ⟨I2.kIn, ?_⟩
  have cps : Caps X (cloFrom X.env.cells scope.names []) fr js := Caps.made I2.ok L.free L.caught L.at_
  have CA := cells_of I2 cps
  rw [ew] at CA
  have hwl : ws.length = fr.length := by have := CA.len; rw [List.length_map] at this; exact this
  -- the ground grows
  have inFr : ∀ y c, (cloFrom X.env.cells scope.names []).lookup y = some c → y ∈ fr ∧ X.env.cells.lookup y = some c := fun y c e => by
    refine ⟨?_, cps.sub y c e⟩
    rcases cloFrom_mem (PySem.mem_of_lookup e) with hm | ⟨h1, _⟩
    · cases hm
    · exact L.sc.free _ h1 rfl
  obtain ⟨base', bsz, up, add, e0⟩ := base_up I2 (f :: fr.filterMap fun y => X.env.cells.lookup y) fun b hb => by
    rcases List.mem_cons.mp hb with rfl | hb
    · exact ⟨hp2.2.1, hfr⟩
    · obtain ⟨y, hy, hc⟩ := List.mem_filterMap.mp hb
      exact ⟨I2.freeC y b hc, L.nf _ _ _ _ I2 y hy b hc⟩
  have bl : BaseLe F.K F.mg X.base base' := ⟨by rw [← hK, ← hmg]; exact I2.ok.mod, up, bsz⟩
  obtain ⟨F', le, hcod, hcap, rh2⟩ := relH_more (caps := ws.zip caps) st2.2 hco2 (rep_zip rw_)
  have clo : CloD F' X.prog X.w base' f (jl + 1) ps.length (lamC N.length caps m) := by
    refine lam_clo (LF := ⟨"<lambda>", X.env.qual ++ "<lambda>", params, [], scope, cloFrom X.env.cells scope.names [], c'⟩) (fr := fr) (ws := ws) L.sc L.len (add f List.mem_cons_self _ hp2.1) (hb _ _ _ _ _) hcod hwl (fun s3 H3 hs => ?_) (fun i v d h1 h2 => hcap _ (mem_zip_get h1 h2)) rw_.length.symm (fun A outer s H E g => hbody F' base' _ c' f A outer s H E le bl g)
    refine ⟨CA.len, fun y c e => ?_, CA.inj, fun i y e => ?_⟩
    · obtain ⟨y1, y2⟩ := inFr y c e
      obtain ⟨v, o, ho, hd⟩ := (CA.all y c e).2
      obtain ⟨g1, g2⟩ := hs c o (add c (List.mem_cons_of_mem _ (List.mem_filterMap.mpr ⟨y, y1, y2⟩)) o ho)
      exact ⟨g2, v, o, g1, hd⟩
    · obtain ⟨c, hc, hv⟩ := CA.has i y e
      refine ⟨c, hc, fun v ev => ?_⟩
      obtain ⟨u, ru, o, ho, hd⟩ := hv v ev
      obtain ⟨y1, y2⟩ := inFr y c hc
      obtain ⟨g1, g2⟩ := hs c o (add c (List.mem_cons_of_mem _ (List.mem_filterMap.mpr ⟨y, y1, y2⟩)) o ho)
      exact ⟨u, ru, o, g1, hd⟩
  obtain ⟨g', fd, ps', hn', gm', kp', hb', ok⟩ := (fn F' base' f _ le clo).ex
  have eg : g' = ga := by
    rw [le.mg, hgm] at gm'
    cases gm'
    rfl
  subst eg
  have len3 : (Value.ref f :: us).length = ps'.length := by rw [hn', List.length_cons, ← r2.length, ra.length, hn]
  have bnd := hb' s2 (.ref f :: us) (by rw [le.K, ← hK]; exact I2.kIn) (by rw [List.append_nil]; exact len3)
  rw [List.append_nil] at bnd
  have e0' : Env0 X.prog X.w F'.K F'.mg base' X.A X.stack s2 H2 := by rw [le.K, le.mg, ← hK, ← hmg]; exact e0
  refine wpAny_call (codeAny_mono (ok.run X.A X.stack s2 H2 ⟨.ref f :: us, []⟩ (.ref f :: us) (.ref f :: vs) Q (WE W σ) (gd.rm.mono hk) e0' bnd (.cons rfl r2) ?_) fun r s' hq => ?_)
  · refine ⟨S2, Z, refD f :: ds, by rw [List.length_cons, ra.length, hn], rh2, .cons (.ref f) (ra.conv le.mg le.K), (cG _ f).mono (fun d S' q v H' st rv => ?_) (fun x S' q C d H' e st dk => ?_) (hrun f)⟩
    · exact q v H' (st2.trans ⟨st.1, st.2.down le⟩) (rv.conv le.mg.symm le.K.symm)
    · exact q C d H' (by rw [← le.mg]; exact e) (st2.trans ⟨st.1, st.2.down le⟩) dk
  · have I2' : Inv X pins σ H2 s2 := I2.pins_of fun q hq => I2.pin q (List.mem_append_right _ (List.mem_append_left _ hq))
    cases r with
    | error e => exact L2N.passAt gd.tk σ pins H2 s2 e s' I2' hq
    | ok fl =>
      cases fl with
      | ret u => exact I2'.after hq
      | next => exact False.elim hq
      | brk => exact False.elim hq
      | cont => exact False.elim hq
end
end EN

/-! == E9c == -/
set_option Elab.async false
set_option linter.all false
set_option maxRecDepth 100000
set_option maxHeartbeats 4000000
set_option autoImplicit false
/-! E9c: the call of what a name holds. -/
namespace EN
open PySem PySem.Spec PyProof.Rows L2 LamX NdefX
def M.callv (i n : Nat) (G : D → C2 → Prop) (t : M (List D)) : M D :=
  ⟨fun ρ S Q E => ∃ d c, ρ[i]? = some (some d) ∧ G d c ∧ t.run ρ S (fun ds S2 => ds.length = n ∧ c.run ds S2 Q E) E, fun q e ⟨d, c, h1, h2, h⟩ => ⟨d, c, h1, h2, t.mono (fun _ _ k => ⟨k.1, c.mono q e k.2⟩) e h⟩⟩
section
variable {X : Cx} {pins : List (Addr × Obj)} {σ : L2.St} {H H1 H2 : Hp} {s : Shared} {F : Fx} {W : WX} {S S' : Sto} {Z : Addr → Prop} {ρ : Lo}
theorem rep_fnD {v : V} {x : Str} (r : Rep F H S Z v (fnD x)) : ∃ a, v = .ref a ∧ F.mg x = some (.ref a) ∧ PySem.W.keepIn F.K (.ref a) = true := by
  generalize hd : fnD x = d at r
  cases r with
  | ref b =>
    unfold fnD refD at hd
    simp at hd
  | @fn a y h k =>
    unfold fnD at hd
    simp only [PyData.dict.injEq, List.cons.injEq, Prod.mk.injEq, PyData.str.injEq, and_true, true_and] at hd
    subst hd
    exact ⟨a, rfl, h, k⟩
  | dic h1 h2 h3 =>
    cases h3 with
    | nil => cases hd
    | @cons k v kvs d ds r t =>
      unfold fnD at hd
      simp only [PyData.dict.injEq, List.cons.injEq, Prod.mk.injEq] at hd
      cases k <;> simp [keyD] at hd
  | _ => cases hd
variable {x : Str} {p pos : Pos} {e : Expr} {es : List Expr} {t : M (List D)} {i j k n : Nat} {G : D → C2 → Prop} {c : C2} {d : D}
/-- what the callable does, run in this place -/
theorem cal_run (gd : Gd F X W k) (hk : j ≤ k) (cd : CalD F X.prog X.w X.base d j n c) {v : V} (rv : Rep F H S Z v d) {u : Value} (ru : RelV v u) {vs : List V} {us : List Value} {Q : VK} (I : Inv X pins σ H s) (r : Vals vs us) (sp : spD F n c vs H Q (WE W σ)) :
    wpAny (model X.prog X.w) X.A (call u us) (EP X pins σ Q) X.xe s := by
  have hK := gd.cx.hK
  have hmg := gd.cx.hmg
  cases cd with
  | clo h =>
    obtain rfl := rep_refD rv
    obtain rfl : u = .ref _ := ru
    have e0' : Env0 X.prog X.w F.K F.mg X.base X.A X.stack s H := by rw [← hK, ← hmg]; exact I.env0
    refine wpAny_call (codeAny_mono (h.run X.A X.stack s H us vs Q (WE W σ) (gd.rm.mono hk) e0' r sp) fun r s' hq => ?_)
    cases r with
    | error e => exact L2N.passAt gd.tk σ pins H s e s' I hq
    | ok fl =>
      cases fl with
      | ret u => exact I.after hq
      | next => exact False.elim hq
      | brk => exact False.elim hq
      | cont => exact False.elim hq
  | fn h =>
    obtain ⟨f, fd, ps, hn, gm, kp, hb, ok⟩ := h.ex
    obtain ⟨a, rfl, h1, h2⟩ := rep_fnD rv
    rw [gm] at h1
    cases h1
    obtain rfl : u = .ref _ := ru
    have ok' : FnOk X.prog X.w X.K X.mg X.base (L2N.CX X.prog X.w) j f fd ps (spD F n c) := by rw [hK, hmg]; exact ok
    exact run_fnS ok' (gd.rm.mono hk) (by rw [hK]; exact hb) (L2N.passAt gd.tk σ) I r sp
theorem e_callv (gd : Gd F X W k) (hG : ∀ d c, G d c → CalD F X.prog X.w X.base d j n c) (hk : j ≤ k) (hN : X.N[i]? = some x) (ha : PA X (e :: es) (tL F W t)) (hv : Vis X.env.scope x := by first | exact Or.inl rfl | exact Or.inr (Or.inl rfl) | exact Or.inr (Or.inr rfl)) (hd : (x == ("__debug__" : Str)) = false := by decide)
    (hcd : (x == ("__classdict__" : Str)) = false := by decide) (he : starEach (e :: es) X.env = (false, eval e X.env) :: starEach es X.env := by rfl) (hpl : (backTo pos (starEach es X.env)).any (·.1) = false := by rfl) :
    PE X (.Call (.Name x p) (e :: es) [] pos) (tE F W (M.callv i n G t)) := by
  constructor
  rintro pins s σ H Q I ⟨ρ, S, Z, sl, rh, d, c, ed, hgc, h⟩
  obtain ⟨v, hv', rv⟩ := sl.get i d ed
  refine wpAny_Call_Name_kw (thn ((pe_var (pos := p) hN hv hd hcd).run pins s σ H (fun v1 H1 => v1 = v ∧ H1 = H) I ⟨v, hv', rfl, rfl⟩) ?_)
  rintro u s1 ⟨v1, H1, I1, ru, rfl, rfl⟩
  have cd := hG d c hgc
  have args := ha.run pos pins s1 σ H1 (fun vs H2 => ∃ S2, Rep F H2 S2 Z v1 d ∧ spD F n c vs H2 Q (WE W σ)) I1 ⟨ρ, S, Z, sl, rh, t.mono (fun ds S2 hq vs H2 st ra => ⟨S2, rv.mono st.1, S2, Z, ds, by rw [ra.length]; exact hq.1, st.2, ra, c.mono (fun d S' q v H' st2 r => q v H' (st.trans st2) r) (fun x S' q C d H' e st2 dk => q C d H' e (st.trans st2) dk) hq.2⟩) (fun _ _ z => z) h⟩
  cases cd with
  | clo hc =>
    obtain rfl := rep_refD rv
    obtain rfl : u = .ref _ := ru
    have fa : ∀ {s : Shared} {H : Hp}, Inv X pins σ H s → PySem.W.FnAt _ s.heap := fun {s H} J => hc.fn.elim fun oc h => h.elim fun od h => h.elim fun fd h => h.elim fun sl h => ⟨oc, od, fd, sl, J.bk _ _ h⟩
    exact PySem.W.callWith_F (first := []) (fa I1) (thn args fun us s2 ⟨vs, H2, I2, r, S2, rv2, sp⟩ => ⟨fa I2, cal_run gd hk (.clo hc) rv2 rfl I2 r sp⟩) he hpl
  | fn hc =>
    obtain ⟨a, rfl, h1, h2⟩ := rep_fnD rv
    obtain rfl : u = .ref _ := ru
    exact PySem.W.callWith_K (h₀ := X.base) I1.ok.mod.kin (by rw [gd.cx.hK]; exact h2) (thn args fun us s2 ⟨vs, H2, I2, r, S2, rv2, sp⟩ => ⟨I2.kIn, cal_run gd hk (.fn hc) rv2 rfl I2 r sp⟩) he hpl
def M.callv0 (i : Nat) (G : D → C2 → Prop) : M D := ⟨fun ρ S Q E => ∃ d c, ρ[i]? = some (some d) ∧ G d c ∧ c.run [] S Q E, fun q e ⟨d, c, h1, h2, h⟩ => ⟨d, c, h1, h2, c.mono q e h⟩⟩
theorem e_callv0 (gd : Gd F X W k) (hG : ∀ d c, G d c → CalD F X.prog X.w X.base d j 0 c) (hk : j ≤ k) (hN : X.N[i]? = some x) (hv : Vis X.env.scope x := by first | exact Or.inl rfl | exact Or.inr (Or.inl rfl) | exact Or.inr (Or.inr rfl)) (hd : (x == ("__debug__" : Str)) = false := by decide)
    (hcd : (x == ("__classdict__" : Str)) = false := by decide) : PE X (.Call (.Name x p) [] [] pos) (tE F W (M.callv0 i G)) := by
  constructor
  rintro pins s σ H Q I ⟨ρ, S, Z, sl, rh, d, c, ed, hgc, h⟩
  obtain ⟨v, hv', rv⟩ := sl.get i d ed
  refine wpAny_Call_Name_kw (thn ((pe_var (pos := p) hN hv hd hcd).run pins s σ H (fun v1 H1 => v1 = v ∧ H1 = H) I ⟨v, hv', rfl, rfl⟩) ?_)
  rintro u s1 ⟨v1, H1, I1, ru, rfl, rfl⟩
  have cd := hG d c hgc
  have sp : spD F 0 c [] H1 Q (WE W σ) := ⟨S, Z, [], rfl, rh, .nil, h⟩
  cases cd with
  | clo hc =>
    obtain rfl := rep_refD rv
    obtain rfl : u = .ref _ := ru
    have fa : PySem.W.FnAt _ s1.heap := hc.fn.elim fun oc h => h.elim fun od h => h.elim fun fd h => h.elim fun sl h => ⟨oc, od, fd, sl, I1.bk _ _ h⟩
    exact PySem.W.callWith_F0 (first := []) fa (cal_run gd hk (.clo hc) rv rfl I1 .nil sp)
  | fn hc =>
    obtain ⟨a, rfl, h1, h2⟩ := rep_fnD rv
    obtain rfl : u = .ref _ := ru
    exact PySem.W.callWith_K0 (first := []) I1.kIn (by rw [gd.cx.hK]; exact h2) (cal_run gd hk (.fn hc) rv rfl I1 .nil sp)
end
end EN

/-! == E10 == -/
set_option Elab.async false
set_option linter.all false
set_option maxRecDepth 100000
set_option maxHeartbeats 4000000
set_option autoImplicit false
/-! E10: comprehensions where an exception is handled, or where the caught cells must be known; zip there. -/
namespace EN
open PySem PySem.Spec PyProof.Rows L2 HotX
section
variable {prog : Program} {w : World} {A : Around} {E : Value → Shared → Prop} {s : Shared}
/-- the end of a list's iterator, an exception being handled -/
theorem nextOf_list_end_hot {it l x1 : Addr} {i : Nat} {items : Array Value} {Q : Value → Shared → Prop} (hot : HotAt A x1 s.heap) (hit : s.heap.IsListIter it l i) (hl : s.heap.IsList l items) (hx : items[i]? = none)
    (hE : ∀ h' e, (∀ b o, b ≠ it → s.heap.get? b = some o → h'.get? b = some o) → (∃ o, h'.get? e = some o ∧ o.cls = .type "StopIteration") → E (.ref e) { s with heap := h' }) : wpAny (model prog w) A (Builtin.SmallTypes.nextOf (.ref it)) Q E s := by
  obtain ⟨o, ho, hc, hd⟩ := id hit
  obtain ⟨ol, hol, _, nl, hdl⟩ := hl
  obtain ⟨hh, o1, vs1, k1, d1, c1⟩ := hot
  have ne : x1 ≠ it := by
    rintro rfl
    rw [ho] at k1
    cases k1
    rw [hd] at d1
    cases d1
    simp at c1
  unfold Builtin.SmallTypes.nextOf
  refine wpAny_bind (wpAny_callSpecial?_slot (name := Str.ofString "__next__") hit.typeIs slot_listiter_next (wpAny_call_entry slot_listiter_next hit.typeIs entry_listiter_next ?_ (args_listiter_next _)))
  show wpAny _ _ (field (.ref it) 0 >>= _) _ _ s
  refine wpAny_bind (wpAny_field ho hd (x := .ref l) rfl ?_)
  show wpAny _ _ (if (Value.ref l == Value.none) = true then _ else _) _ _ s
  rw [if_neg (show ¬ ((Value.ref l == Value.none) = true) from Bool.false_ne_true)]
  show wpAny _ _ (field (.ref it) 1 >>= _) _ _ s
  refine wpAny_bind (wpAny_field ho hd (x := .int i 0) rfl ?_)
  show wpAny _ _ (seqItems? (.ref l) >>= _) _ _ s
  refine wpAny_bind (wpAny_seqItems hol hdl ?_)
  simp only [Int.toNat_natCast, hx]
  refine wpAny_bind (wpAny_rule (wpAny_bind (wpAny_setField ho hd (by simp) ?_)))
  show wpAny _ _ (newExc (.type "StopIteration") [] >>= _) _ _ _
  refine wpAny_bind ?_
  simp only [newExc, newTuple]
  refine wpAny_bind (wpAny_newObj_type ?_ (by size_fits))
  refine wpAny_bind (m := firstArgMember _ _) (wpAny_of_eq (a := Value.none) (by first | rfl | (simp only [firstArgMember]; rfl)) ?_)
  refine wpAny_newObj_type ?_ (by size_fits)
  have k2 := (Heap.get?_update_other s.heap (Obj.mapFields (·.setIfInBounds 0 .none)) (Ne.symm ne)).trans k1
  refine raiseNew_hot ⟨hh, o1, vs1, Heap.get?_push_of_some _ (Heap.get?_push_of_some _ k2), d1, c1⟩ (Nat.ne_of_lt (Heap.lt_size (Heap.get?_push_of_some _ k2))) (Heap.get?_push_size _ rfl) rfl (by first | (simp; done) | (simp; omega) | (simp only [Array.size_append]; simp; omega)) ?_
  refine hE _ _ (fun b o hb e => ?_) ⟨_, Heap.get?_update_self _ (Heap.get?_push_size _ rfl) rfl, rfl⟩
  have e2 := (Heap.get?_update_other s.heap (Obj.mapFields (·.setIfInBounds 0 .none)) (Ne.symm hb)).trans e
  rw [Heap.get?_update_other _ _ (Nat.ne_of_gt (Heap.lt_size (Heap.get?_push_of_some _ e2)))]
  exact Heap.get?_push_of_some _ (Heap.get?_push_of_some _ e2)
theorem zip_end_hot {z TI TO i1 i2 l1 l2 x1 : Addr} {k1 k2 : Nat} {xs ys : Array Value} {a b : Value} {Q : Option Value → Shared → Prop} (hot : HotAt A x1 s.heap) (D : ZipApart z TI TO i1 i2 l1 l2)
    (hz : IsZip s.heap z TI TO .none) (hTI : IsPair s.heap TI (.ref i1) (.ref i2)) (hTO : IsPair s.heap TO a b) (g1 : s.heap.IsListIter i1 l1 k1) (g2 : s.heap.IsListIter i2 l2 k2) (hl1 : s.heap.IsList l1 xs) (hl2 : s.heap.IsList l2 ys) (hend : xs[k1]? = none ∨ ys[k2]? = none)
    (hx1 : x1 ≠ z ∧ x1 ≠ TO ∧ x1 ≠ i1 ∧ x1 ≠ i2) (hQ : ∀ h', (∀ c o, c ≠ z → c ≠ TO → c ≠ i1 → c ≠ i2 → s.heap.get? c = some o → h'.get? c = some o) → Q none { s with heap := h' }) : wpAny (model prog w) A (pyNext (.ref z)) Q E s := by
  have hT : s.TypeIs (.ref z) "zip" := ⟨_, hz, rfl⟩
  obtain ⟨hh, o1, vs1, q1, d1, c1⟩ := hot
  unfold pyNext
  have core : ∀ {Q' : Fin → Shared → Prop} {E' : Value → Shared → Prop}, (∀ h' e, (∀ c o, c ≠ z → c ≠ TO → c ≠ i1 → c ≠ i2 → s.heap.get? c = some o → h'.get? c = some o) → (∃ o, h'.get? e = some o ∧ o.cls = .type "StopIteration") → E' (.ref e) { s with heap := h' }) →
      wpAny (model prog w) A.in1 (Builtin.«zip.__next__» ⟨[.ref z], []⟩) Q' E' s := by
    intro Q' E' hE
    show wpAny _ _ (field (.ref z) 2 >>= _) _ _ _
    refine wpAny_bind (wpAny_field hz rfl (x := .bool false) rfl ?_)
    show wpAny _ _ (field (.ref z) 3 >>= _) _ _ _
    refine wpAny_bind (wpAny_field hz rfl (x := .ref TI) rfl ?_)
    refine wpAny_bind (wpAny_seqItems hTI rfl ?_)
    show wpAny _ _ (Builtin.SmallTypes.ownedTupleIsFree (.ref z) >>= _) _ _ _
    refine wpAny_bind ?_
    unfold Builtin.SmallTypes.ownedTupleIsFree
    refine wpAny_bind (wpAny_field hz rfl (x := .none) rfl (wpAny_pure ?_))
    simp only [if_true]
    refine wpAny_bind (wpAny_rule ?_)
    refine wpAny_bind (wpAny_field hz rfl (x := .ref TO) rfl ?_)
    refine wpAny_bind (wpAny_setField_rec hz (by simp) fun h₁ hz₁ hs₁ => ?_)
    replace hz₁ : IsZip h₁ z TI TO .ellipsis := hz₁
    have hot1 : ∀ {h : Heap}, h.get? x1 = some o1 → HotAt A.in1 x1 h := fun e => ⟨hh, o1, vs1, e, d1, c1⟩
    have p1 := (hs₁.2 _ hx1.1).trans q1
    refine wpAny_bind ?_
    simp only [List.zipIdx_cons, List.zipIdx_nil, List.forIn_cons, List.forIn_nil]
    refine wpAny_bind (wpAny_bind (wpAny_onRaise ?_))
    show wpAny _ _ (Builtin.SmallTypes.nextOf (.ref i1) >>= _) _ _ _
    cases hx : xs[k1]? with
    | none =>
      refine wpAny_bind (nextOf_list_end_hot (s := { s with heap := h₁ }) (hot1 p1) (g1.extBut hs₁.extBut D.i1z) (hl1.extBut hs₁.extBut D.l1z) hx fun h₂ e hs₂ he => ?_)
      obtain ⟨oe, hoe, hce⟩ := he
      have hz₂ : IsZip h₂ z TI TO .ellipsis := hs₂ _ _ D.i1z.symm hz₁
      have hez : e ≠ z := fun x => by subst x; rw [hz₂] at hoe; cases hoe; simp at hce
      refine wpAny_setField_rec hz₂ (by simp) fun h₃ _ hs₃ => hE h₃ e (fun c o c1 _ c3 _ x => hs₃.extBut _ _ c1 (hs₂ _ _ c3 (hs₁.extBut _ _ c1 x))) ⟨oe, hs₃.extBut _ _ hez hoe, hce⟩
    | some x =>
      have hy : ys[k2]? = none := by rcases hend with h | h; rw [hx] at h; cases h; exact h
      refine wpAny_bind (wpAny_nextOf_list_item (g1.extBut hs₁.extBut D.i1z) (hl1.extBut hs₁.extBut D.l1z) hx fun h₂ h1₂ hs₂ => wpAny_pure ?_)
      have hTO₂ : IsPair h₂ TO a b := hs₂.extBut _ _ D.TOi1 (hs₁.extBut _ _ D.TOz hTO)
      refine wpAny_bind (wpAny_seqItems hTO₂ rfl ?_)
      refine wpAny_bind (wpAny_updateSeq_pair hTO₂ fun h₃ hTO₃ hs₃ => ?_)
      refine wpAny_bind (wpAny_letGo (wpAny_pure ?_))
      refine wpAny_bind (wpAny_bind (wpAny_onRaise ?_))
      have p3 := hs₃.extBut _ _ hx1.2.1 (hs₂.extBut _ _ hx1.2.2.1 p1)
      show wpAny _ _ (Builtin.SmallTypes.nextOf (.ref i2) >>= _) _ _ _
      refine wpAny_bind (nextOf_list_end_hot (s := { s with heap := h₃ }) (hot1 p3) (((g2.extBut hs₁.extBut D.i2z).extBut hs₂.extBut D.i12.symm).extBut hs₃.extBut D.TOi2.symm)
        (((hl2.extBut hs₁.extBut D.l2z).extBut hs₂.extBut D.l2i1).extBut hs₃.extBut D.l2TO) hy fun h₄ e hs₄ he => ?_)
      obtain ⟨oe, hoe, hce⟩ := he
      have hz₄ : IsZip h₄ z TI TO .ellipsis := hs₄ _ _ D.i2z.symm (hs₃.extBut _ _ D.TOz.symm (hs₂.extBut _ _ D.i1z.symm hz₁))
      have hez : e ≠ z := fun x => by subst x; rw [hz₄] at hoe; cases hoe; simp at hce
      refine wpAny_setField_rec hz₄ (by simp) fun h₅ _ hs₅ => hE h₅ e (fun c o c1 c2 c3 c4 x => hs₅.extBut _ _ c1 (hs₄ _ _ c4 (hs₃.extBut _ _ c2 (hs₂.extBut _ _ c3 (hs₁.extBut _ _ c1 x))))) ⟨oe, hs₅.extBut _ _ hez hoe, hce⟩
  refine wpAny_bind (wpAny_attempt (wpAny_callSpecial?_slot (name := Str.ofString "__next__") hT F.slot_zip_next (wpAny_call_entry F.slot_zip_next hT F.entry_zip_next (core fun h' e hk he => ?_) (F.args_zip_next_1 _))))
  obtain ⟨o, ho, hc⟩ := he
  refine wpAny_bind (wpAny_isInstance (T := "StopIteration") (b := true) ⟨o, ho, hc⟩ isSubtype_stop ?_)
  exact wpAny_pure (hQ _ hk)
end
/-! ### turns, whatever the place -/
structure TurnG (P : Program) (w : World) (K : PySem.W.Frag) (calm : Bool) (hot : Around → List Addr → Heap → Prop) (tg : Expr) (J : It) (fp : List Addr) (it : Addr) (tn : Nat → Heap → Prop) : Prop where
  obj : ∀ i h, tn i h → ∀ b ∈ fp, ∃ o, h.get? b = some o ∧ ∀ v, o.data ≠ .cell v
  keep : ∀ i h h', tn i h → (∀ b ∈ fp, ∀ o, h.get? b = some o → h'.get? b = some o) → tn i h'
  item : ∀ (X : Cx), X.prog = P → X.w = w → X.K = K → X.calm = calm → ∀ (i : Nat) (pins : List (Addr × Obj)) (s : Shared) (σ : L2.St) (H : Hp) (E : Value → Shared → Prop), Inv X pins σ H s → (∀ b ∈ fp, FpOk X pins H b) → tn i s.heap → J.go i H →
    wpAny (model P w) X.A (pyNext (.ref it)) (fun r s1 => ∃ u, r = some u ∧
      wpAny (model P w) X.A (letOwnedTupleGo tg (.ref it) u) (fun _ s2 => ∃ x H', Inv X pins σ H' s2 ∧ RelV x u ∧ J.yld i H x H' ∧ tn (i + 1) s2.heap ∧ ∀ b ∈ fp, H' b = none) E s1) E s
  done : ∀ (X : Cx), X.prog = P → X.w = w → X.K = K → X.calm = calm → ∀ (i : Nat) (pins : List (Addr × Obj)) (s : Shared) (σ : L2.St) (H : Hp) (E : Value → Shared → Prop), Inv X pins σ H s → (∀ b ∈ fp, FpOk X pins H b) → hot X.A fp s.heap → tn i s.heap → J.stop i H →
    wpAny (model P w) X.A (pyNext (.ref it)) (fun r s1 => r = none ∧ Inv X pins σ H s1) E s
  self : ∀ (A : Around) (i : Nat) (s : Shared) (Q : Value → Shared → Prop) (E : Value → Shared → Prop), tn i s.heap → Q (.ref it) s → wpAny (model P w) A (pyIter (.ref it)) Q E s
def PIEG (X : Cx) (hot : Around → List Addr → Heap → Prop) (pins : List (Addr × Obj)) (σ : L2.St) (tg : Expr) (R : It → Hp → Prop) (itv : Value) (s2 : Shared) : Prop :=
  ∃ (it : Addr) (fp : List Addr) (tn : Nat → Heap → Prop) (J : It) (H' : Hp), itv = .ref it ∧ Inv X pins σ H' s2 ∧ TurnG X.prog X.w X.K X.calm hot tg J fp it tn ∧ tn 0 s2.heap ∧ (∀ b ∈ fp, FpOk X pins H' b) ∧ R J H'
structure PIG (X : Cx) (hot : Around → List Addr → Heap → Prop) (tg iter : Expr) (wi : TI) : Prop where
  run : ∀ (pins : List (Addr × Obj)) (s : Shared) (σ : L2.St) (H : Hp) (R : It → Hp → Prop), Inv X pins σ H s → wi σ H R →
    wpAny (model X.prog X.w) X.A (eval iter X.env) (fun v s1 => wpAny (model X.prog X.w) X.A (pyIter v) (PIEG X hot pins σ tg R) X.xe s1) X.xe s
abbrev anyHot : Around → List Addr → Heap → Prop := fun _ _ _ => True
theorem pig_of {X : Cx} {tg iter : Expr} {wi : TI} (hc : X.calm = true) (h : PI X tg iter wi) : PIG X anyHot tg iter wi :=
  ⟨fun pins s σ H R I q => thn (h.run pins s σ H R I q) fun v s1 hx => thn hx fun itv s2 ⟨it, fp, tn, J, H', e, I2, T, st, f, r⟩ => ⟨it, fp, tn, J, H', e, I2, ⟨T.obj, T.keep, fun X' a b c d => T.item X' a b c (d.trans hc), fun X' a b c d i pins s σ H E I f _ => T.done X' a b c (d.trans hc) i pins s σ H E I f, T.self⟩, st, f, r⟩⟩
/-- caught cells that are no frames -/
abbrev ClOk (X : Cx) (cl : List (Str × Addr)) : Prop := ∀ y c, cl.lookup y = some c → c ∉ frs X.stack
theorem lc_gen {X : Cx} {hot : Around → List Addr → Heap → Prop} {pins : List (Addr × Obj)} {s : Shared} {σ : L2.St} {H : Hp} {Q : VK} {elt tg iter : Expr} {ifs : List Expr} {scope : Scope} {own : List (Str × Nat)} {pos pos' : Pos} {wi : TI} {g : TG} {tt : TT} {te : TE} {use : Option (Value → Sem Unit)} {Qf : Value → Shared → Prop}
    {G : Shared → Hp → List Addr → Prop} (hN : X.N.Nodup) (I : Inv X pins σ H s) (hi : PIG X hot tg iter wi) (ok : BlkOk X.N X.env.scope scope own) (hcl : ClOk X X.env.cells)
    (hG : ∀ (sA : Shared) (HA : Hp) (fp : List Addr), Inv X pins σ HA sA → (∀ b ∈ fp, FpOk X pins HA b) → G sA HA fp)
    (hpre : ∀ (sA : Shared) (HA : Hp) (ce : Env) (fp : List Addr), G sA HA fp → ∀ σ' H' s', Inv (X.blk sA HA scope ce fp) [] σ' H' s' → hot X.A fp s'.heap)
    (hg : ∀ (s : Shared) (H : Hp) (C : Addr) (cl : List (Str × Addr)) (fp : List Addr), ClOk X cl → G s H fp → PG (X.blk s H scope (compEnvC scope cl C X.env) fp) tg g) (ht : ∀ (s : Shared) (H : Hp) (C : Addr) (cl : List (Str × Addr)) (fp : List Addr), ClOk X cl → G s H fp → PTs (X.blk s H scope (compEnvC scope cl C X.env) fp) ifs tt)
    (he : ∀ (s : Shared) (H : Hp) (C : Addr) (cl : List (Str × Addr)) (fp : List Addr), ClOk X cl → G s H fp → PE (X.blk s H scope (compEnvC scope cl C X.env) fp) elt te) (hs : ∀ x, foldedSetIterable iter X.env x = pure x)
    (h : tLc wi g tt te (own.map (·.2)) σ H Q)
    (hRR : ∀ D C s' m H', Inv X pins σ H' s' → Q (.ref D) H' → s'.heap.Ns C m → FpOk X pins H' C → compPost (model X.prog X.w) X.A X.xe use Qf (.ref D) C (.ok .next) s') :
    wpAny (model X.prog X.w) X.A (comprehension (.ListComp elt [⟨tg, iter, ifs, 0⟩] scope pos) scope X.env pos' (newList []) false (eval iter X.env) use) Qf X.xe s := by
  have hfree : ∀ y ∈ scope.names, y.2 = .free → ∃ c, X.env.cells.lookup y.1 = some c := fun y hy e => (ok.free y hy e).elim (fun k => I.ok.has _ (.inl k)) fun k => I.ok.has _ (.inr k)
  refine wpAny_comprehension_free (use := use) rfl hs (closure_ok hfree) ok.kind (fun y hy e => by rw [ok.uniq y hy, e]) (thn (hi.run pins s σ H _ I h) fun xv s1 hx => thn hx ?_)
  rintro itv s2 ⟨it, fp, tn, J, H2, rfl, I2, T, st2, f2, q⟩
  refine wpAny_newObj_type (newEnv_comp ?_) (by show 0 ≤ sizeLine; decide)
  generalize hD : s2.heap.objs.size = D
  obtain ⟨W, ⟨m0, w0⟩, turn⟩ := q D (I2.hok.fresh (Nat.le_of_eq hD))
  generalize hs3 : ({ s2 with heap := s2.heap.push { cls := .type "list", data := .seq ([] : List Value).toArray } } : Shared) = s3
  have h3 : s3.heap = s2.heap.push { cls := .type "list", data := .seq ([] : List Value).toArray } := by rw [← hs3]
  have I3 : Inv X pins σ (upd H2 D (.lst [])) s3 := by
    rw [← hs3, ← hD]
    exact I2.laid (t' := s2.toks) (fun b o e => Heap.get?_push_of_some _ e) (Nat.le_refl _) ⟨Nat.zero_le _, [], 0, .nil, Heap.get?_push_size _ rfl⟩
  have sz : ∀ b ∈ fp, b < s2.heap.objs.size := fun b hb => (T.obj _ _ st2 b hb).elim fun o e => Heap.lt_size e.1
  have f3 : ∀ b ∈ fp, FpOk X pins (upd H2 D (.lst [])) b ∧ b < s3.heap.objs.size := fun b hb =>
    ⟨⟨by rw [upd_ne (by rw [← hD]; exact Nat.ne_of_lt (sz b hb))]; exact (f2 b hb).1, (f2 b hb).2⟩, by rw [h3, Heap.size_push]; exact Nat.lt_succ_of_lt (sz b hb)⟩
  have st3 : tn 0 s3.heap := T.keep _ _ _ st2 fun b _ o e => by rw [h3]; exact Heap.get?_push_of_some _ e
  have I4 := block_start I3 ok hN f3
  have clok : ClOk X (cellsFrom (s3.heap.objs.size + 1) scope.names (cloFrom X.env.cells scope.names [])) := fun y c e => by
    have e1 : cellsFrom (s3.heap.push { cls := .type "dict", data := .dict #[] }).objs.size scope.names (cloFrom X.env.cells scope.names []) = cellsFrom (s3.heap.objs.size + 1) scope.names (cloFrom X.env.cells scope.names []) := by rw [Heap.size_push]
    have e2 := PySem.mem_of_lookup e
    rw [← e1] at e2
    rcases cells_mem e2 with hm | ⟨_, h2, _⟩
    · rcases cloFrom_mem hm with hm | ⟨k1, k2⟩
      · cases hm
      · obtain ⟨c0, hc0⟩ := hfree _ k1 rfl
        have : c = c0 := by rw [k2, hc0]; rfl
        rw [this]
        exact hcl y c0 hc0
    · rw [Heap.size_push] at h2
      intro hm
      have lt : c < s3.heap.objs.size := by
        rcases List.mem_cons.mp (I3.stkSub c hm) with z | z
        · rw [z]; exact I3.lt
        · obtain ⟨_, o, ho, _⟩ := I3.funs.mem (b := c) z
          exact Heap.lt_size ho
      exact absurd (Nat.lt_of_lt_of_le lt (Nat.le_of_succ_le h2)) (Nat.lt_irrefl _)
  have gg := hG s3 (upd H2 D (.lst [])) fp I3 fun b hb => (f3 b hb).1
  have pg := hg s3 (upd H2 D (.lst [])) s3.heap.objs.size _ fp clok gg
  have pt := ht s3 (upd H2 D (.lst [])) s3.heap.objs.size _ fp clok gg
  have pe := he s3 (upd H2 D (.lst [])) s3.heap.objs.size _ fp clok gg
  show codeAny _ _ (.compStart (.ListComp elt [⟨tg, iter, ifs, 0⟩] scope pos) 0 (.ref it) (.ref D) (compEnvC scope (cellsFrom (s3.heap.objs.size + 1) scope.names (cloFrom X.env.cells scope.names [])) s3.heap.objs.size X.env)) (compPost (model X.prog X.w) X.A X.xe use Qf (.ref D) s3.heap.objs.size) { s3 with heap := pushCells (s3.heap.push { cls := .type "dict", data := .dict #[] }) scope.names }
  have nfp : ∀ b ∈ fp, (upd H2 D (.lst [])) b = none := fun b hb => (f3 b hb).1.1
  generalize hce : compEnvC scope (cellsFrom (s3.heap.objs.size + 1) scope.names (cloFrom X.env.cells scope.names [])) s3.heap.objs.size X.env = ce at I4 pg pt pe ⊢
  have cL : ce.locals = s3.heap.objs.size := by subst hce; rfl
  generalize hH3 : upd H2 D (.lst []) = H3 at I3 I4 pg pt pe w0 nfp f3 gg
  generalize hs4 : ({ s3 with heap := pushCells (s3.heap.push { cls := .type "dict", data := .dict #[] }) scope.names } : Shared) = s4 at I4 ⊢
  have st4 : tn 0 s4.heap := T.keep _ _ _ st3 fun b _ o e => by rw [← hs4]; exact pushCells_keeps _ _ _ _ (Heap.get?_push_of_some _ e)
  have stat : ∀ {σ' : L2.St} {H' : Hp} {s' : Shared}, Inv (X.blk s3 H3 scope ce fp) [] σ' H' s' → (∀ b ∈ fp, H' b = none) → ∀ b ∈ fp, FpOk (X.blk s3 H3 scope ce fp) [] H' b := fun {σ' H' s'} I' hn b hb =>
    ⟨hn b hb, (I'.ok.exf b hb).1, I'.ok.exfs b hb, .inl hb, fun x c e => (I'.ok.exf b hb).2 x c e, fun p hp => absurd (show p ∈ ([] : List (Addr × Obj)) ++ [] from hp) (by simp)⟩
  refine codeAny_compStart_list ?_ (T.self X.A 0 _ _ _ st4 ?_) <;>
  · refine compLoop_any (fun n s' => ∃ i H', Inv (X.blk s3 H3 scope ce fp) [] (wipe σ (own.map (·.2))) H' s' ∧ tn i s'.heap ∧ (∀ b ∈ fp, H' b = none) ∧ W i n H') ?_ m0 ⟨0, H3, I4, st4, nfp, w0⟩
    rintro n s5 ⟨i, H5, I5, st5, n5, w5⟩
    rcases turn i n H5 w5 with ⟨stop, qq⟩ | ⟨go, Nx, hNx, step⟩
    · have td := T.done (X.blk s3 H3 scope ce fp) rfl rfl rfl rfl i [] s5 _ H5 (fun _ _ => False) I5 (stat I5 n5) (hpre s3 H3 ce fp gg _ _ _ I5) st5 stop
      refine thnF td ?_
      rintro r s6 ⟨rfl, I6⟩
      have I7 : Inv X pins σ H5 s6 := I3.call' (ch := fp) I6.os I6.base I6.hok I6.bare fun b hb => ⟨(f3 b hb).1.2.2.2.1, (f3 b hb).1.2.1, (f3 b hb).1.2.2.2.2.1, (f3 b hb).1.2.2.2.2.2⟩
      have nC : H5 s3.heap.objs.size = none := by rw [← cL]; exact I6.free
      obtain ⟨m, hn, _⟩ := I6.loc
      have hn : s6.heap.Ns ce.locals m := hn
      rw [cL] at hn
      exact hRR D s3.heap.objs.size s6 m H5 I7 qq hn (I3.fpOk (Nat.le_refl _) nC)
    · have ti := T.item (X.blk s3 H3 scope ce fp) rfl rfl rfl rfl i [] s5 _ H5 (fun _ _ => False) I5 (stat I5 n5) st5 go
      refine thnF ti ?_
      rintro r s6 ⟨u, rfl, h6⟩
      refine thnF h6 fun _ s7 ⟨x, H7, I7, r7, y7, st7, n7⟩ => ?_
      have I7' := I7.pinned (stat I7 n7) (T.obj _ _ st7)
      refine thnF (pg.run _ s7 _ H7 x u _ I7' r7 (step x H7 y7)) fun _ s8 ⟨σ8, H8, I8, hw8, q8⟩ => ?_
      refine thnF (pt.run _ s8 σ8 H8 _ I8 q8) fun b s9 ⟨H9, I9, q9⟩ => ?_
      have fin : ∀ {s' : Shared} {H' : Hp}, Inv (X.blk s3 H3 scope ce fp) ([] ++ pinsAt fp s7.heap) σ8 H' s' → Nx H' → ∃ m, m < n ∧ ∃ i H', Inv (X.blk s3 H3 scope ce fp) [] (wipe σ (own.map (·.2))) H' s' ∧ tn i s'.heap ∧ (∀ b ∈ fp, H' b = none) ∧ W i m H' := fun {s' H'} I' nx => by
        obtain ⟨m', hm, w'⟩ := hNx H' nx
        have pin' : ∀ b ∈ fp, ∀ o, s7.heap.get? b = some o → s'.heap.get? b = some o ∧ H' b = none := fun b hb o e =>
          let z := I'.pin (b, o) (List.mem_append_right _ (List.mem_append_right _ (mem_pinsAt hb e)))
          ⟨z.1, z.2.1⟩
        refine ⟨m', hm, i + 1, H', (I'.unpinned (pins := [])).weak (by rw [← hw8, wipe_length]) (fun j v e => ?_), T.keep _ _ _ st7 fun b hb o e => (pin' b hb o e).1, fun b hb => ?_, w'⟩
        · rw [← hw8] at e
          exact (wipe_some e).1
        · obtain ⟨o, e, _⟩ := T.obj _ _ st7 b hb
          exact (pin' b hb o e).2
      cases b with
      | false =>
        simp only [Bool.false_eq_true, if_false] at q9 ⊢
        exact fin I9 q9
      | true =>
        simp only [if_true] at q9 ⊢
        refine thnF (pe.run _ s9 σ8 H9 _ I9 q9) fun z s10 ⟨yv, H10, I10, r10, acc, hD10, hz10, nx⟩ => ?_
        exact app_ok (X := X.blk s3 H3 scope ce fp) I10 hD10 hz10 r10 fun s11 I11 => fin I11 nx
end EN

/-! == E10b == -/
set_option Elab.async false
set_option linter.all false
set_option maxRecDepth 100000
set_option maxHeartbeats 4000000
set_option autoImplicit false
/-! E10b: where an exception is handled: unpacking, zip, comprehensions, isinstance of the exception. -/
namespace EN
open PySem PySem.Spec PyProof.Rows L2 HotX L2H
section
variable {prog : Program} {w : World} {A : Around} {E : Value → Shared → Prop} {s : Shared}
theorem tuple_end_hot {it t x1 : Addr} {i : Nat} {items : Array Value} {Q : Option Value → Shared → Prop} (hot : HotAt A x1 s.heap) (hit : s.heap.IsTupleIter it t i) (ht : s.heap.IsTuple t items) (hx : items[i]? = none)
    (hQ : ∀ h', (∀ b o, b ≠ it → s.heap.get? b = some o → h'.get? b = some o) → Q none { s with heap := h' }) : wpAny (model prog w) A (pyNext (.ref it)) Q E s := by
  obtain ⟨o, ho, hc, hd⟩ := id hit
  obtain ⟨ol, hol, _, nl, hdl⟩ := ht
  obtain ⟨hh, o1, vs1, k1, d1, c1⟩ := hot
  have ne : x1 ≠ it := by
    rintro rfl
    rw [ho] at k1
    cases k1
    rw [hd] at d1
    cases d1
    simp at c1
  unfold pyNext
  refine wpAny_bind (wpAny_attempt (wpAny_callSpecial?_slot (name := Str.ofString "__next__") hit.typeIs F.slot_tuple_iterator_next
    (wpAny_call_entry F.slot_tuple_iterator_next hit.typeIs F.entry_tuple_iterator_next ?_ (F.args_tuple_iterator_next_1 _))))
  show wpAny _ _ (field (.ref it) 0 >>= _) _ _ s
  refine wpAny_bind (wpAny_field ho hd (x := .ref t) rfl ?_)
  show wpAny _ _ (if (Value.ref t == Value.none) = true then _ else _) _ _ s
  rw [if_neg (show ¬ ((Value.ref t == Value.none) = true) from Bool.false_ne_true)]
  show wpAny _ _ (field (.ref it) 1 >>= _) _ _ s
  refine wpAny_bind (wpAny_field ho hd (x := .int i 0) rfl ?_)
  show wpAny _ _ (seqItems? (.ref t) >>= _) _ _ s
  refine wpAny_bind (wpAny_seqItems hol hdl ?_)
  simp only [Int.toNat_natCast, hx]
  refine wpAny_bind (wpAny_rule (wpAny_bind (wpAny_setField ho hd (by simp) ?_)))
  show wpAny _ _ (newExc (.type "StopIteration") [] >>= _) _ _ _
  refine wpAny_bind ?_
  simp only [newExc, newTuple]
  refine wpAny_bind (wpAny_newObj_type ?_ (by size_fits))
  refine wpAny_bind (m := firstArgMember _ _) (wpAny_of_eq (a := Value.none) (by first | rfl | (simp only [firstArgMember]; rfl)) ?_)
  refine wpAny_newObj_type ?_ (by size_fits)
  have k2 := (Heap.get?_update_other s.heap (Obj.mapFields (·.setIfInBounds 0 .none)) (Ne.symm ne)).trans k1
  refine raiseNew_hot ⟨hh, o1, vs1, Heap.get?_push_of_some _ (Heap.get?_push_of_some _ k2), d1, c1⟩ (Nat.ne_of_lt (Heap.lt_size (Heap.get?_push_of_some _ k2))) (Heap.get?_push_size _ rfl) rfl (by first | (simp; done) | (simp; omega) | (simp only [Array.size_append]; simp; omega)) ?_
  refine wpAny_bind (wpAny_isInstance (T := "StopIteration") (b := true) ⟨_, Heap.get?_update_self _ (Heap.get?_push_size _ rfl) rfl, rfl⟩ isSubtype_stop ?_)
  refine wpAny_pure (hQ _ fun b o hb e => ?_)
  have e2 := (Heap.get?_update_other s.heap (Obj.mapFields (·.setIfInBounds 0 .none)) (Ne.symm hb)).trans e
  rw [Heap.get?_update_other _ _ (Nat.ne_of_gt (Heap.lt_size (Heap.get?_push_of_some _ e2)))]
  exact Heap.get?_push_of_some _ (Heap.get?_push_of_some _ e2)
theorem unpack_hot {env : Env} {elts : List Expr} {kk : Nat} {pos : Pos} {t x1 : Addr} {items : Array Value} {Q : Unit → Shared → Prop} (hot : HotAt A x1 s.heap) (ht : IsTup s.heap t items)
    (hn : (assignEach elts env).length = items.size) (hstar : (assignEach elts env).findIdx? (·.1) = none)
    (h : ∀ h', (∀ b o, s.heap.get? b = some o → h'.get? b = some o) → wpAny (model prog w) A (assignInOrder ((assignEach elts env).map (·.2)) items.toList) Q E { s with heap := h' }) : wpAny (model prog w) A (assign (.Tuple elts kk pos) env (.ref t)) Q E s := by
  have ht : s.heap.IsTuple t items := ht
  have hlt : t ≠ s.heap.objs.size := by obtain ⟨o, ho, _⟩ := ht; exact Nat.ne_of_lt (Heap.lt_size ho)
  obtain ⟨hh, o1, vs1, k1, d1, c1⟩ := hot
  have hx1 : x1 ≠ s.heap.objs.size := Nat.ne_of_lt (Heap.lt_size k1)
  rw [assign_Tuple]
  refine wpAny_bind (wpAny_standAt ?_)
  unfold unpack
  rw [hn, hstar]
  refine wpAny_bind (wpAny_holding ?_)
  unfold unpackItems
  refine wpAny_bind ?_
  unfold notIterableAtAll
  refine wpAny_bind (wpAny_specialOf ht.typeIs F.slot_tuple_iter.lookup ?_)
  refine wpAny_pure ?_
  simp only [Bool.false_eq_true, if_false]
  refine wpAny_bind (wpAny_holding (wpAny_pyIter_tuple ht ?_))
  refine wpAny_bind (wpAny_holding (wpAny_draw_tuple hlt items.size 0 _ _ ⟨_, Heap.get?_push_size _ rfl, rfl, rfl⟩ (ht.push _) (by omega) fun h₁ hit₁ hs₁ => ?_))
  have hall : List.take items.size (List.drop 0 items.toList) = items.toList := by
    rw [List.drop_zero]; exact List.take_of_length_le (by simp)
  rw [hall]
  rw [if_neg (by simp)]
  have ht₁ : h₁.IsTuple t items := (ht.push _).extBut hs₁.extBut hlt
  refine wpAny_bind (wpAny_holding (tuple_end_hot (s := { s with heap := h₁ }) ⟨hh, o1, vs1, (hs₁.2 _ hx1).trans (Heap.get?_push_of_some _ k1), d1, c1⟩ hit₁ ht₁ (by simp) fun h₂ he₂ => ?_))
  simp only [Option.isSome_none, Bool.false_eq_true, if_false]
  exact wpAny_pure (h h₂ fun b o e => he₂ b o (Nat.ne_of_lt (Heap.lt_size e)) ((hs₁.2 _ (Nat.ne_of_lt (Heap.lt_size e))).trans (Heap.get?_push_of_some _ e)))
end
section
variable {X : Cx} {pins : List (Addr × Obj)} {σ : L2.St} {H : Hp} {s : Shared} {F : Fx} {W : WX} {pos p : Pos} {Z : Addr → Prop} {S : Sto}
/-- in every state of this place the handled exception stands -/
def HotX (X : Cx) : Prop := ∀ (pins : List (Addr × Obj)) (σ : L2.St) (H : Hp) (s : Shared), Inv X pins σ H s → ∃ x1, HotAt X.A x1 s.heap
theorem HotC.all (c : HotC X) : EN.HotX X := fun _ _ _ _ I => c.at I
theorem pg_tupH {es : List Expr} {k : Nat} {t : TGs} {n : Nat} (hc : EN.HotX X) (h : PGs X es t)
    (hn : (assignEach es X.env).length = n := by rfl) (hst : (assignEach es X.env).findIdx? (·.1) = none := by rfl) : PG X (.Tuple es k pos) (gTup X.K n t) := by
  constructor
  rintro pins s σ H v u Q I r ⟨a, xs, rfl, hq, hl, hw⟩
  obtain rfl : u = .ref a := r
  obtain ⟨its, rv, ht, hz⟩ := I.tuple hq
  obtain ⟨x1, hot⟩ := hc pins σ H s I
  exact unpack_hot hot ht (by simp [hn, ← hl, rv.length]) hst fun h' hx => h.run pins _ σ H xs _ Q (I.kept (t' := s.toks) hx) (by simpa using rv) hw
theorem g_tupPH {es : List Expr} {k : Nat} {is : List Nat} (hc : EN.HotX X) (h : PGs X es (gNames is))
    (hn : (assignEach es X.env).length = is.length := by rfl) (hst : (assignEach es X.env).findIdx? (·.1) = none := by rfl) : PG X (.Tuple es k pos) (tgG F (RepP F) is (tgT is)) :=
  (pg_tupH hc h hn hst).imp fun v σ H Q ⟨ρ, S, Z, d, ρ', sl, rh, r, e, q⟩ => by
    have key : ∀ {a xs ds}, SqT X.K H a xs → RepA F H S Z xs ds → setAll is ds ρ = some ρ' → v = .ref a → gTup X.K is.length (gNames is) v σ H Q := fun hs r e ev =>
      ⟨_, _, ev, hs, by rw [r.length, setAll_len e], gNames_ok sl r e q⟩
    rcases r with r | ⟨T, xs, ds, rfl, rfl, hT, r⟩
    · cases d with
      | tuple ds =>
        cases r with
        | tup h1 h2 h3 => exact key (sqF h1) h3 e rfl
      | _ => cases e
    · exact key (.of hT) r e rfl
def hotF : Around → List Addr → Heap → Prop := fun A fp h => ∃ x1, HotAt A x1 h ∧ x1 ∉ fp
theorem turn_zipH {P : Program} {w : World} {K : PySem.W.Frag} {calm : Bool} {elts : List Expr} {kk : Nat} {tpos : Pos} {a b z TI TO i1 i2 : Addr} (D : ZipApart z TI TO i1 i2 a b) :
    TurnG P w K calm hotF (.Tuple elts kk tpos) (Itz K a b) [z, TI, TO, i1, i2] z (fun i h => IsZip h z TI TO .none ∧ IsPair h TI (.ref i1) (.ref i2) ∧ (∃ x y, IsPair h TO x y) ∧ h.IsListIter i1 a i ∧ h.IsListIter i2 b i) where
  obj := fun i h st c hc => by
    obtain ⟨hz, hTI, ⟨x, y, hTO⟩, ⟨o1, e1, _, d1⟩, ⟨o2, e2, _, d2⟩⟩ := st
    have e' : c = z ∨ c = TI ∨ c = TO ∨ c = i1 ∨ c = i2 := by simpa using hc
    rcases e' with rfl | rfl | rfl | rfl | rfl
    · exact ⟨_, hz, fun v q => nomatch q⟩
    · exact ⟨_, hTI, fun v q => nomatch q⟩
    · exact ⟨_, hTO, fun v q => nomatch q⟩
    · exact ⟨o1, e1, fun v q => by rw [d1] at q; cases q⟩
    · exact ⟨o2, e2, fun v q => by rw [d2] at q; cases q⟩
  keep := fun i h h' ⟨hz, hTI, ⟨x, y, hTO⟩, h1, h2⟩ k => ⟨k z (by simp) _ hz, k TI (by simp) _ hTI, ⟨x, y, k TO (by simp) _ hTO⟩, h1.at fun o q => k i1 (by simp) o q, h2.at fun o q => k i2 (by simp) o q⟩
  item := by
    rintro X rfl rfl rfl - i pins s σ H E I hf ⟨hz, hTI, ⟨x0, y0, hTO⟩, h1, h2⟩ ⟨xs, ys, x, y, hqx, hqy, hx, hy⟩
    obtain ⟨its, rv, p, _⟩ := I.list hqx
    obtain ⟨its2, rv2, p2, _⟩ := I.list hqy
    obtain ⟨u, hu, ru⟩ := rv.get hx
    obtain ⟨u2, hu2, ru2⟩ := rv2.get hy
    have hzl : z < s.heap.objs.size := Heap.lt_size hz
    refine wpAny_pyNext_zip_item D hz hTI hTO h1 h2 p.isList p2.isList (x := u) (y := u2) (by simpa using hu) (by simpa using hu2) fun h' z' TO' h1' h2' hT hsz hk => ⟨_, rfl, wpAny_letOwnedTupleGo_zip (s := { s with heap := h' }) z' fun h'' z'' sb => ?_⟩
    have hT2 : h''.get? s.heap.objs.size = some { cls := .type "tuple", data := .seq #[u, u2] } := (sb.2 _ (Nat.ne_of_gt hzl)).trans hT
    have new : ObjOk X.prog X.w (upd H s.heap.objs.size (.tup [x, y])) h'' s.heap.objs.size (.tup [x, y]) := ⟨by show 2 ≤ sizeLine; decide, [u, u2], .cons ru (.cons ru2 .nil), ⟨_, hT2, rfl, _, rfl⟩⟩
    have I1 : Inv X pins σ (upd H s.heap.objs.size (.tup [x, y])) { s with heap := h'' } :=
      I.turnedNew (t' := s.toks) (ch := [z, TI, TO, i1, i2]) (fun c o hb q => (sb.2 c (fun q' => hb (by simp [q']))).trans (hk c o (fun q' => hb (by simp [q'])) (fun q' => hb (by simp [q'])) (fun q' => hb (by simp [q'])) (fun q' => hb (by simp [q'])) q)) hf (Nat.le_refl _) new
    refine ⟨.ref s.heap.objs.size, _, I1, rfl, ⟨_, x, y, rfl, I.hok.fresh (Nat.le_refl _), rfl, fun l hl => by rw [I.list_inj hl hqx]; exact hx, fun l hl => by rw [I.list_inj hl hqy]; exact hy⟩, ⟨z'', (sb.2 _ D.TIz).trans (hk _ _ D.TIz D.TITO D.TIi1 D.TIi2 hTI), ⟨u, u2, (sb.2 _ D.TOz).trans TO'⟩, h1'.at fun o q => (sb.2 _ D.i1z).trans q, h2'.at fun o q => (sb.2 _ D.i2z).trans q⟩, fun c hcm => ?_⟩
    have hlt : c < s.heap.objs.size := by
      have e' : c = z ∨ c = TI ∨ c = TO ∨ c = i1 ∨ c = i2 := by simpa using hcm
      rcases e' with rfl | rfl | rfl | rfl | rfl
      · exact hzl
      · exact Heap.lt_size hTI
      · exact Heap.lt_size hTO
      · exact h1.elim fun _ e1 => Heap.lt_size e1.1
      · exact h2.elim fun _ e1 => Heap.lt_size e1.1
    rw [upd_ne (Nat.ne_of_lt hlt)]
    exact (hf c hcm).1
  done := by
    rintro X rfl rfl rfl - i pins s σ H E I hf ⟨x1, hot, nx⟩ ⟨hz, hTI, ⟨x0, y0, hTO⟩, h1, h2⟩ ⟨xs, ys, hqx, hqy, hend⟩
    obtain ⟨its, rv, p, _⟩ := I.list hqx
    obtain ⟨its2, rv2, p2, _⟩ := I.list hqy
    have l1 := rv.length
    have l2 := rv2.length
    have he : its.toArray[i]? = none ∨ its2.toArray[i]? = none := by
      rcases hend with q | q
      · exact .inl (by simp; omega)
      · exact .inr (by simp; omega)
    simp only [List.mem_cons, List.not_mem_nil, or_false, not_or] at nx
    exact zip_end_hot hot D hz hTI hTO h1 h2 p.isList p2.isList he ⟨nx.1, nx.2.2.1, nx.2.2.2.1, nx.2.2.2.2⟩ fun h' hk => ⟨rfl, I.turnedL (t' := s.toks) (ch := [z, TI, TO, i1, i2]) (fun c o hb q => hk c o (fun q' => hb (by simp [q'])) (fun q' => hb (by simp [q'])) (fun q' => hb (by simp [q'])) (fun q' => hb (by simp [q'])) q) hf⟩
  self := fun _ _ _ _ _ st h => wpAny_pyIter_zip st.1 h
theorem pig_zip {e e2 : Expr} {ta : TA} {tpos : Pos} {elts : List Expr} {kk : Nat} (hg : Gl X "zip") (hm : X.mg "zip" = none) (ha : PA X [e, e2] ta)
    (hs : starEach [e, e2] X.env = (false, eval e X.env) :: starEach [e2] X.env := by rfl) (hpl : (backTo pos (starEach [e2] X.env)).any (·.1) = false := by rfl) :
    PIG X hotF (.Tuple elts kk tpos) (.Call (.Name "zip" p) [e, e2] [] pos) (iZip X.K ta) := by
  constructor
  intro pins s σ H R I h
  refine Call_ (ld_blt I hg hm PyProof.Rows.boot_zip (PyProof.Rows.callWith_type1 (thn (ha.run pos pins s σ H _ I h) ?_) hs hpl))
  rintro us s1 ⟨vs, H1, I1, r1, a, b, xs, ys, rfl, hqx, hqy, q⟩
  cases r1 with
  | cons r rr =>
    cases rr with
    | cons r' rr =>
      cases rr
      cases r
      cases r'
      have fresh5 : ∀ c, c ∈ [s1.heap.objs.size + 4, s1.heap.objs.size + 2, s1.heap.objs.size + 3, s1.heap.objs.size, s1.heap.objs.size + 1] → FpOk X pins H1 c := fun c hcm => by
        have e' : c = s1.heap.objs.size + 4 ∨ c = s1.heap.objs.size + 2 ∨ c = s1.heap.objs.size + 3 ∨ c = s1.heap.objs.size ∨ c = s1.heap.objs.size + 1 := by simpa using hcm
        have hle : s1.heap.objs.size ≤ c := by
          rcases e' with z | z | z | z | z <;> rw [z]
          · exact Nat.le_add_right _ _
          · exact Nat.le_add_right _ _
          · exact Nat.le_add_right _ _
          · exact Nat.le_refl _
          · exact Nat.le_add_right _ _
        exact I1.fpOk hle (I1.hok.fresh hle)
      obtain ⟨its, rv, p1, _⟩ := I1.list hqx
      obtain ⟨its2, rv2, p2, _⟩ := I1.list hqy
      refine call_zip_2 p1.isList p2.isList fun h' hz hTI hTO h1 h2 hsz hk => wpAny_pyIter_zip hz ?_
      exact ⟨s1.heap.objs.size + 4, [s1.heap.objs.size + 4, s1.heap.objs.size + 2, s1.heap.objs.size + 3, s1.heap.objs.size, s1.heap.objs.size + 1], _, _, H1, rfl, I1.kept (t' := s1.toks) hk, turn_zipH (PySem.W.ktu_apart s1.heap.objs.size a b p1.lt p2.lt), ⟨hz, hTI, ⟨_, _, hTO⟩, h1, h2⟩, fresh5, q⟩
end
end EN

/-! == E10c == -/
set_option Elab.async false
set_option linter.all false
set_option maxRecDepth 100000
set_option maxHeartbeats 4000000
set_option autoImplicit false
/-! E10c: the rules where an exception is handled; the def that tells the exception's names. -/
namespace EN
open PySem PySem.Spec PyProof.Rows L2 HotX L2H
section
variable {X : Cx} {pins : List (Addr × Obj)} {σ : L2.St} {H : Hp} {s : Shared} {F : Fx} {W : WX} {pos p : Pos} {Z : Addr → Prop} {S : Sto}
/-- isinstance(e, C), e the error at a -/
theorem call_isX {a D : Addr} {d : Option Addr} {oe : Obj} (C : L2.ExcC X.K D) (hz : Zc (.ref D) d oe) (hf : ∃ vs, oe.data = .fields vs) (hp : (a, oe) ∈ X.pn) :
    CallR X (.builtin "isinstance") (fun xs H Q => ∃ (c : V) (cv : Value) (b : Bool), xs = [.ref a, c] ∧ (∀ u, RelV c u → u = cv) ∧ PySem.W.kitOne X.K (.ref D) cv = some b ∧ DOk H d ∧ Q (.bl b) H) := by
  rintro pins s σ H xs us Q I r ⟨c, cv, b, rfl, hcv, e, hd, q⟩
  obtain ⟨u1, u2, rfl, r1, r2⟩ := Vals.two r
  obtain rfl : u1 = .ref a := r1
  obtain rfl := hcv _ r2
  obtain ⟨hget, _⟩ := I.pin (a, oe) (List.mem_append_left _ hp)
  obtain ⟨vs, hv⟩ := hf
  obtain ⟨z1, z2⟩ := hz
  have cl : (PySem.W.clsIn X.K D).isSome = true := by
    obtain ⟨cd, hc, _⟩ := PySem.W.any_some C.hd
    rw [hc]; rfl
  have go : ∀ od, PySem.W.InstAt s.heap a oe D od → wpAny (model X.prog X.w) X.A (call (.builtin "isinstance") [.ref a, u2]) (EP X pins σ Q) X.xe s := fun od J =>
    PySem.W.kia_one (PySem.W.kitx_exc cl C.hg C.hk C.hs C.ha C.hn C.ht C.hm) I.kIn J e (fun z => nomatch z) fun tk => ⟨.bl b, H, I.kept (t' := tk) fun _ _ z => z, rfl, q⟩
  have no : PySem.W.notCls oe = true := by
    obtain ⟨c1, c2, c3, c4⟩ := oe
    dsimp only at hv
    subst hv
    rfl
  cases d with
  | none => exact go none ⟨hget, z1, no, by rw [z2]; trivial⟩
  | some x =>
    obtain ⟨fs, hx⟩ := hd x rfl
    obtain ⟨mA, hns, _⟩ := I.hok x _ hx
    have : ∃ o, s.heap.get? x = some o := by
      obtain ⟨o, _, _, ho, _⟩ := hns
      exact ⟨o, ho⟩
    obtain ⟨o, ho⟩ := this
    exact go (some o) ⟨hget, z1, no, by rw [z2]; exact ho⟩
/-- the error's place: what is known of it -/
structure ErrAt (F : Fx) (X : Cx) (D a : Addr) (d : Option Addr) (oe : Obj) : Prop where
  C : L2.ExcC X.K D
  hz : Zc (.ref D) d oe
  hf : ∃ vs, oe.data = .fields vs
  hp : (a, oe) ∈ X.pn
  xd : ∀ x, d = some x → x ∈ F.xds
def asRef : D → Option Addr
  | .dict [(.none, .int i)] => if 0 ≤ i then some i.toNat else none
  | _ => none
theorem asRef_eq {d : D} {a : Addr} (h : asRef d = some a) : d = refD a := by
  unfold asRef at h
  split at h
  · split at h
    · rename_i i hi
      cases h
      unfold refD
      rw [Int.toNat_of_nonneg hi]
    · cases h
  · cases h
theorem asRef_ref (a : Addr) : asRef (refD a) = some a := by
  unfold asRef refD
  simp
theorem e_isX {D a : Addr} {d : Option Addr} {oe : Obj} {i : Nat} {x y : Str} {p1 p2 : Pos} {cv : Value} {c : V} {b : Bool} (er : ErrAt F X D a d oe) (hg : Gl X "isinstance") (hm : X.mg "isinstance" = none) (hN : X.N[i]? = some x) (hc : PE X (.Name y p2) (tC c)) (hcv : ∀ u, RelV c u → u = cv) (hk : PySem.W.kitOne X.K (.ref D) cv = some b)
    (hv : Vis X.env.scope x := by first | exact Or.inl rfl | exact Or.inr (Or.inl rfl) | exact Or.inr (Or.inr rfl)) (hd : (x == ("__debug__" : Str)) = false := by decide) (hcd : (x == ("__classdict__" : Str)) = false := by decide)
    (he : starEach [.Name x p1, .Name y p2] X.env = (false, eval (.Name x p1) X.env) :: starEach [.Name y p2] X.env := by rfl) (he2 : starEach [.Name y p2] X.env = (false, eval (.Name y p2) X.env) :: starEach [] X.env := by rfl) :
    PE X (.Call (.Name "isinstance" p) [.Name x p1, .Name y p2] [] pos) (tE F W ((M.var i).bind fun d => .opt fun _ => if asRef d = some a then some (.bool b) else none)) :=
  (pe_callB (call_isX er.C er.hz er.hf er.hp) hg hm PyProof.Rows.boot_isinstance (pa_cons (e_var (F := F) (W := W) hN hv hd hcd) (pa_cons hc pa_nil he2) he) (he := he)).imp fun σ H Q ⟨ρ, S, Z, sl, rh, h⟩ => ⟨ρ, S, Z, sl, rh, run_step sl h fun v dd H1 S1 s1 r1 sl1 h1 => by
    obtain ⟨d', e, q⟩ := h1
    split at e
    · rename_i hdd
      obtain rfl := asRef_eq hdd
      cases e
      obtain rfl := rep_refD r1
      exact ⟨c, cv, b, rfl, hcv, hk, fun x hx => (s1.2.xds x (er.xd x hx)).1, q _ _ (.refl s1.2) (.bl b)⟩
    · cases e⟩
def asLL : D → Option (List D)
  | .list ds => some ds
  | _ => none
def M.zipH (t : M (List D)) : M (List D) := t.bind fun ds => .opt fun _ => match ds with
  | [.list a, .list b] => some (zipL a b)
  | _ => none
theorem _root_.EN.PIG.imp {hot : Around → List Addr → Heap → Prop} {tg e : Expr} {t t' : TI} (h : PIG X hot tg e t) (i : ∀ σ H Q, t' σ H Q → t σ H Q) : PIG X hot tg e t' := ⟨fun pins s σ H Q I q => h.run pins s σ H Q I (i _ _ _ q)⟩
theorem i_zipH {a b : Expr} {tpos : Pos} {elts : List Expr} {kk : Nat} {t : M (List D)} (hg : Gl X "zip") (hm : X.mg "zip" = none) (ha : PA X [a, b] (tL F W t))
    (hs : starEach [a, b] X.env = (false, eval a X.env) :: starEach [b] X.env := by rfl) (hpl : (backTo pos (starEach [b] X.env)).any (·.1) = false := by rfl) : PIG X hotF (.Tuple elts kk tpos) (.Call (.Name "zip" p) [a, b] [] pos) (tIt F (RepP F) W t.zipH) :=
  (pig_zip hg hm ha hs hpl).imp fun σ H R ⟨ρ, S, Z, sl, rh, h⟩ => ⟨ρ, S, Z, sl, rh, run_step sl h fun vs ds H1 S1 s1 r sl1 h1 => by
    obtain ⟨ds', e, q⟩ := h1
    split at e
    · cases e
      cases r with
      | cons r r2 =>
      cases r2 with
      | cons r' r2 =>
      cases r2
      cases r with
      | lst x1 x2 x3 =>
      cases r' with
      | lst y1 y2 y3 => exact ⟨_, _, _, _, rfl, .of x1, .of y1, q _ _ (.refl s1.2) (itd_zipL (.lst x1 x2 x3) (.lst y1 y2 y3) _ fun a q => (s1.2.zone a q).2)⟩
    · cases e⟩
/-- what a block knows of the handled error -/
def HotG (X : Cx) (s : Shared) (H : Hp) (fp : List Addr) : Prop := ∃ p : Addr × Obj, Hot1 X.A p ∧ s.heap.get? p.1 = some p.2 ∧ H p.1 = none ∧ p.1 ∉ fp ∧ p.1 ∉ frs X.stack
theorem hotG_of (c : HotC X) {sA : Shared} {HA : Hp} {fp : List Addr} (I : Inv X pins σ HA sA) (hf : ∀ b ∈ fp, FpOk X pins HA b) : HotG X sA HA fp := by
  obtain ⟨p, hot, hp⟩ := c
  have P1 := I.pin p (List.mem_append_left _ hp)
  refine ⟨p, hot, P1.1, P1.2.1, fun hm => ?_, fun hm => (List.mem_cons.mp (I.stkSub p.1 hm)).elim P1.2.2.1 P1.2.2.2.1⟩
  exact (hf p.1 hm).2.2.2.2.2 p (List.mem_append_left _ hp) rfl
theorem hotG_at {sA : Shared} {HA : Hp} {fp : List Addr} {scope : Scope} {ce : Env} (g : HotG X sA HA fp) {σ' : L2.St} {H' : Hp} {s' : Shared} {pins' : List (Addr × Obj)} (I : Inv (X.blk sA HA scope ce fp) pins' σ' H' s') : hotF X.A fp s'.heap := by
  obtain ⟨p, ⟨hA, vs, hd, hn⟩, h1, h2, h3, h4⟩ := g
  exact ⟨p.1, ⟨hA, p.2, vs, I.base.keep p.1 p.2 h1 h2 h4 h3, hd, hn⟩, h3⟩
theorem clOk_own (hf : ∀ y, X.fn y = true) (I : Inv X pins σ H s) : ClOk X X.env.cells := fun y c hc hm => by
  rcases List.mem_cons.mp (I.stkSub c hm) with e | e
  · exact I.cne y c hc e
  · have h1 := I.ok.cab y c (hf y) hc
    obtain ⟨_, o, ho, _⟩ := I.ok.funs.mem (b := c) e
    exact absurd (Heap.lt_size ho) (Nat.not_lt.mpr h1)
variable {P : RP D V} {tge iter elt : Expr} {ifs : List Expr} {scope : Scope} {own : List (Str × Nat)} {mi : M (List D)} {tg : Tg} {is : List Nat} {mt : M Bool} {me : M D}
theorem e_lcH (nd : X.N.Nodup) (hot : HotC X) (hfn : ∀ y, X.fn y = true) (his : ∀ i ∈ is, i ∈ own.map (·.2)) (hi : PIG X hotF tge iter (tIt F P W mi)) (ok : BlkOk X.N X.env.scope scope own)
    (hg : ∀ (s : Shared) (H : Hp) (C : Addr) (cl : List (Str × Addr)) (fp : List Addr), HotG X s H fp → PG (X.blk s H scope (compEnvC scope cl C X.env) fp) tge (tgG F P is tg))
    (ht : ∀ (s : Shared) (H : Hp) (C : Addr) (cl : List (Str × Addr)) (fp : List Addr), PTs (X.blk s H scope (compEnvC scope cl C X.env) fp) ifs (tTB F W0 mt))
    (he : ∀ (s : Shared) (H : Hp) (C : Addr) (cl : List (Str × Addr)) (fp : List Addr), PE (X.blk s H scope (compEnvC scope cl C X.env) fp) elt (tE F W0 me)) (hs : ∀ x, foldedSetIterable iter X.env x = pure x := by intro _; rfl) :
    PE X (.ListComp elt [⟨tge, iter, ifs, 0⟩] scope pos) (tE F W (M.lc mi (own.map (·.2)) tg mt me)) := by
  constructor
  intro pins s σ H Q I h
  rw [eval_ListComp]
  refine lc_gen (G := HotG X) nd I hi ok (clOk_own hfn I) (fun sA HA fp J f => hotG_of hot J f) (fun sA HA ce fp g σ' H' s' J => hotG_at g J) (fun s H C cl fp _ g => hg s H C cl fp g) (fun s H C cl fp _ _ => ht s H C cl fp) (fun s H C cl fp _ _ => he s H C cl fp) hs (lcT his σ H Q h) fun D C s' m H' I' q hn f => ⟨m, hn, fun h'' sb => ?_⟩
  obtain ⟨f0, f1, f2, f3, f4, f5⟩ := f
  exact ⟨.ref D, H', I'.turned (t' := s'.toks) (fun b o hb e => (sb.2 b hb).trans e) f0 f1 f3 f4 f5, rfl, q⟩
/-- a comprehension whose caught cells are known to be no frames -/
theorem e_lcN (cx : CtxOk F X) (hfn : ∀ y, X.fn y = true) (his : ∀ i ∈ is, i ∈ own.map (·.2)) (hi : PI X tge iter (tIt F P W mi)) (ok : BlkOk X.N X.env.scope scope own)
    (hg : ∀ (s : Shared) (H : Hp) (C : Addr) (cl : List (Str × Addr)) (fp : List Addr), PG (X.blk s H scope (compEnvC scope cl C X.env) fp) tge (tgG F P is tg))
    (ht : ∀ (s : Shared) (H : Hp) (C : Addr) (cl : List (Str × Addr)) (fp : List Addr), ClOk X cl → PTs (X.blk s H scope (compEnvC scope cl C X.env) fp) ifs (tTB F W0 mt))
    (he : ∀ (s : Shared) (H : Hp) (C : Addr) (cl : List (Str × Addr)) (fp : List Addr), ClOk X cl → PE (X.blk s H scope (compEnvC scope cl C X.env) fp) elt (tE F W0 me)) (hs : ∀ x, foldedSetIterable iter X.env x = pure x := by intro _; rfl) :
    PE X (.ListComp elt [⟨tge, iter, ifs, 0⟩] scope pos) (tE F W (M.lc mi (own.map (·.2)) tg mt me)) := by
  constructor
  intro pins s σ H Q I h
  rw [eval_ListComp]
  refine lc_gen (G := fun _ _ _ => True) cx.nd I (pig_of cx.calm hi) ok (clOk_own hfn I) (fun _ _ _ _ _ => trivial) (fun _ _ _ _ _ _ _ _ _ => trivial) (fun s H C cl fp _ _ => hg s H C cl fp) (fun s H C cl fp c _ => ht s H C cl fp c) (fun s H C cl fp c _ => he s H C cl fp c) hs (lcT his σ H Q h) fun D C s' m H' I' q hn f => ⟨m, hn, fun h'' sb => ?_⟩
  obtain ⟨f0, f1, f2, f3, f4, f5⟩ := f
  exact ⟨.ref D, H', I'.turned (t' := s'.toks) (fun b o hb e => (sb.2 b hb).trans e) f0 f1 f3 f4 f5, rfl, q⟩
/-- the caught cells of a block are no frames -/
theorem noFr_blk {s0 : Shared} {H0 : Hp} {scope : Scope} {C : Addr} {cl : List (Str × Addr)} {fp : List Addr} {fr : List Str} (h : ClOk X cl) : NoFr (X.blk s0 H0 scope (compEnvC scope cl C X.env) fp) fr := fun pins σ H s I y _ c hc => h y c hc
end
end EN

/-! == E10d == -/
set_option Elab.async false
set_option linter.all false
set_option maxRecDepth 100000
set_option maxHeartbeats 4000000
set_option autoImplicit false
/-! E10d: a def called while an exception is handled; try. -/
namespace EN
open PySem PySem.Spec PyProof.Rows L2 HotX L2H
section
variable {P : Program} {w : World} {K : PySem.W.Frag} {mg : Str → Option Value} {base : Heap} {CX : CXT} {k : Nat} {f : Addr}
/-- a def runs while the error p is handled -/
theorem run_hot {x : Str} {st : Stmt} {fd : FuncData} {N ps : List Str} (Fn : Fun K x x st f fd) (Sc : FnScope N ps (defScope st)) {A : Around} {outer : List Env} {s : Shared} {H : Hp} {args : Args} {us : List Value} {vs : List V} {Q : VK} {E : XK} {p : Addr × Obj}
    (hr : RoomH (k + 1) A) (hot : Hot1 A p) (pin : PinOk outer H s p) (e0 : Env0 P w K mg base A outer s H) (hb : BindsTo s fd args (ps.zip us)) (r : Vals vs us) (hl : vs.length = ps.length)
    (body : ∀ cdv, RoomH k (A.deeper (envOfC x (defScope st) s.heap.objs.size f cdv)) → ∃ t, PSs (cxH CX P w K mg base N x (defScope st) f cdv A outer s H E p) (defBody st) t ∧ t { nx := fun _ H' => Q .non H', rt := Q } (L2.start N vs) H) :
    codeAny (model P w) A (.call (.ref f) args) (CR CX outer P w H s Q E) s := by
  obtain ⟨oc, od, kV, doc, pm, an, cdv, ct, osl, rfl, lk, hcd⟩ := Fn.ex
  have inK : K.In s.heap := e0.mod.kin.keeps fun b o e => (e0.bs b o e).1
  have noL : s.heap.NoLimit := e0.mod.nolimit.keeps fun b o e => (e0.bs b o e).1
  have kinds : ∀ y ∈ ps.zip us, (defScope st).names.lookup y.1 = some .local ∨ ((defScope st).names.lookup y.1 = some .cell ∧ ((cellsFrom (s.heap.objs.size + 1) (defScope st).names []).lookup y.1).isSome = true) := fun ⟨n, v⟩ hy =>
    (Sc.par n (List.of_mem_zip hy).1).imp id fun q => ⟨q, PySem.W.cellsFrom_some _ _ _ (.inl q)⟩
  refine codeAny_call_function hr.depth (inK _ _ lk) rfl Sc.co Sc.gen rfl (PySem.W.codeRec_of inK hcd) (hb _ _ _ _ (wpAny_newFunctionEnv_cells Sc.kind kinds ?_))
  rintro env rfl s1 x1
  obtain ⟨t, ht, hq⟩ := body cdv (hr.deeper _)
  refine ⟨noL.keeps x1.toInCall.keep, codeAny_func (wpAny_mono (ht.run [] s1 (L2.start N vs) H _ (inv_startH Sc pin e0 hl r x1) hq) ?_ fun _ _ h => h)⟩
  rintro fl s' hs
  cases fl with
  | ret u => exact hs.elim fun v h => h.elim fun σ' h => h.elim fun H' h => ⟨v, H', h.1.os, h.1.bare, h.1.base, h.1.hok, h.2.1, h.2.2⟩
  | next => exact hs.elim fun σ' h => h.elim fun H' h => ⟨V.non, H', h.1.os, h.1.bare, h.1.base, h.1.hok, rfl, h.2⟩
  | brk => exact hs.elim fun _ h => h.elim fun _ h => h.2.elim
  | cont => exact hs.elim fun _ h => h.elim fun _ h => h.2.elim
end
/-- the class at D and what is told of an error of it: t -/
structure FnN (F0 : Fx) (P : Program) (w : World) (x : Str) (k : Nat) (nm : Addr → Option Str) : Prop where
  ex : ∃ (f : Addr) (fd : FuncData) (ps : List Str), ps.length = 1 ∧ F0.mg x = some (.ref f) ∧ PySem.W.keepIn F0.K (.ref f) = true ∧ Binds F0.K fd ps [] ∧
    ∀ (F : Fx) (base : Heap) (A : Around) (outer : List Env) (s : Shared) (H : Hp) (args : Args) (a D : Addr) (d : Option Addr) (oe : Obj) (t : Str) (S : Sto) (Z : Addr → Prop) (Q : VK) (E : XK), FxLe F0 F → RoomH k A → Hot1 A (a, oe) → PinOk outer H s (a, oe) → Env0 P w F.K F.mg base A outer s H →
      BindsTo s fd args (ps.zip [.ref a]) → Zc (.ref D) d oe → (∃ vs, oe.data = .fields vs) → nm D = some t → RelH F H S Z → (∀ x, d = some x → x ∈ F.xds) → (∀ H', Stp F H S Z H' S → Q (.str t) H') → codeAny (model P w) A (.call (.ref f) args) (CR (L2N.CX P w) outer P w H s Q E) s
section
variable {X : Cx} {σ : L2.St} {H : Hp} {s : Shared} {F : Fx} {W : WX} {pos p p1 : Pos} {Z : Addr → Prop} {S : Sto} {k j i : Nat} {x y : Str} {nm : Addr → Option Str}
/-- names(e), in an except clause -/
def tNames (F : Fx) (i : Nat) (a D : Addr) (nm : Addr → Option Str) : TE := fun σ H Q => ∃ S Z t, σ[i]? = some (some (.ref a)) ∧ RelH F H S Z ∧ nm D = some t ∧ ∀ H', Stp F H S Z H' S → Q (.str t) H'
theorem e_names {a D : Addr} {d : Option Addr} {oe : Obj} {pn : List (Addr × Obj)} (cx : CtxOk F X) (rm : Room k X.A) (fn : FnN F X.prog X.w x j nm) (hk : j ≤ k) (hg : Gl X x) (hN : X.N[i]? = some y) (hz : L2N.Zn (.ref D) d oe) (hf : ∃ vs, oe.data = .fields vs) (hxd : ∀ x, d = some x → x ∈ F.xds)
    (hv : Vis X.env.scope y := by first | exact Or.inl rfl | exact Or.inr (Or.inl rfl) | exact Or.inr (Or.inr rfl)) (hdb : (x == ("__debug__" : Str)) = false := by decide) (hd : (y == ("__debug__" : Str)) = false := by decide) (hcd : (y == ("__classdict__" : Str)) = false := by decide)
    (he : starEach [.Name y p1] X.env = (false, eval (.Name y p1) X.env) :: starEach [] X.env := by rfl) :
    PE (X.suite a ((a, oe) :: pn)) (.Call (.Name x p) [.Name y p1] [] pos) (tNames F i a D nm) := by
  obtain ⟨f, fd, ps, hn, gm, kp, hb, run⟩ := fn.ex
  have hK := cx.hK
  have hmg := cx.hmg
  constructor
  rintro pins s σ H Q I ⟨S, Z, t, hs, rh, ht, q⟩
  refine wpAny_Call_Name_kw (ld_glob I hg (by show X.mg x = _; rw [hmg]; exact gm) ?_ hdb)
  have args := (pa_cons (X := X.suite a ((a, oe) :: pn)) (pe_var (pos := p1) hN hv hd hcd) pa_nil he).run pos pins s σ H (fun vs H1 => vs = [.ref a] ∧ H1 = H) I ⟨.ref a, hs, rfl, rfl⟩
  refine PySem.W.callWith_K (h₀ := X.base) I.ok.mod.kin (by show PySem.W.keepIn X.K _ = true; rw [hK]; exact kp) (thn args ?_) he (by rfl)
  rintro us s1 ⟨vs, H1, I1, r, rfl, rfl⟩
  obtain ⟨u, rfl, ru⟩ := vals1 r
  obtain rfl : u = .ref a := ru
  refine ⟨I1.kIn, ?_⟩
  have P1 := I1.pin (a, oe) (List.mem_append_left _ List.mem_cons_self)
  have pin : PinOk X.stack H1 s1 (a, oe) := ⟨P1.1, P1.2.1, fun hm => (List.mem_cons.mp (I1.stkSub a hm)).elim P1.2.2.1 P1.2.2.2.1, P1.2.2.2.2⟩
  obtain ⟨vs0, hvs⟩ := hf
  have hot : Hot1 (X.A.mark (some (.ref a))) (a, oe) := ⟨rfl, vs0, hvs, hz.2.2 vs0 hvs⟩
  have rmH : RoomH j (X.A.mark (some (.ref a))) := have r := (roomH_of rm).mono hk; ⟨r.dp, r.un⟩
  have e0 : Env0 X.prog X.w F.K F.mg X.base (X.A.mark (some (.ref a))) X.stack s1 H1 := by rw [← hK, ← hmg]; exact I1.env0
  have bnd := hb s1 [.ref a] (by rw [← hK]; exact I1.kIn) (by rw [List.append_nil, hn]; rfl)
  rw [List.append_nil] at bnd
  refine wpAny_call (codeAny_mono (run F X.base _ X.stack s1 H1 ⟨[.ref a], []⟩ a D d oe t S Z Q (fun _ _ _ => False) (FxLe.refl F) rmH hot pin e0 bnd hz.zc ⟨vs0, hvs⟩ ht rh hxd q) fun r s' hq => ?_)
  cases r with
  | error e =>
    obtain ⟨_, _, _, _, _, _, _, _, _, _, _, _, h⟩ := hq
    exact h.elim
  | ok fl =>
    cases fl with
    | ret u => exact I1.after hq
    | next => exact False.elim hq
    | brk => exact False.elim hq
    | cont => exact False.elim hq
theorem CtxOk.le {F' : Fx} (c : CtxOk F X) (le : FxLe F F') : CtxOk F' X := ⟨c.hK.trans le.K.symm, c.hmg.trans le.mg.symm, c.calm, c.nd, c.units⟩
theorem FnN.up {F' : Fx} {P : Program} {w : World} (f : FnN F P w x j nm) (le : FxLe F F') : FnN F' P w x j nm := by
  obtain ⟨f, fd, ps, h1, h2, h3, h4, h5⟩ := f.ex
  exact ⟨f, fd, ps, h1, by rw [le.mg]; exact h2, by rw [le.K]; exact h3, by rw [le.K]; exact h4, fun F2 base A outer s H args a D d oe t S Z Q E l2 => h5 F2 base A outer s H args a D d oe t S Z Q E (le.trans l2)⟩
def MS.tryN (i : Nat) (body : MS) (nm : Str → Option Str) (wrap : Str → D) : MS := ⟨fun ρ S nx rt xs => body.run ρ S nx rt (fun x ρ' S' => ∃ t, nm x = some t ∧ i < ρ'.length ∧ rt (wrap t) S'), fun h1 h2 _ q => body.mono h1 h2 (fun x _ S ⟨t, e, l, k⟩ => ⟨t, e, l, h2 _ _ k⟩) q⟩
/-- what the clause's suite does -/
def tSu (F : Fx) (i : Nat) (a D : Addr) (nm : Addr → Option Str) (wrap : Str → EN.D) : TS := fun Dd σ H => ∃ S Z t, σ[i]? = some (some (.ref a)) ∧ RelH F H S Z ∧ nm D = some t ∧ ∀ v H', Stp F H S Z H' S → Rep F H' S Z v (wrap t) → Dd.rt v H'
theorem xds_more {d : Option Addr} (rh : RelH F H S Z) (dk : DOk H d) : ∃ F' : Fx, FxLe F F' ∧ (∀ x, d = some x → x ∈ F'.xds) ∧ RelH F' H S Z := by
  let F' : Fx := { F with xds := F.xds ++ d.toList }
  refine ⟨F', ⟨rfl, rfl, rfl, rfl, fun _ h => h, fun _ h => h, fun p hp => List.mem_append_left _ hp⟩, fun x hx => List.mem_append_right _ (by rw [hx]; simp), ?_⟩
  refine ⟨fun a c e => (rh.cells a c e).conv (F := F) (F' := F') rfl rfl, rh.zone, rh.scr, rh.tabs, rh.cod, fun p hp => (rh.cap p hp).conv (F := F) (F' := F') rfl rfl, fun x hx => ?_⟩
  rcases List.mem_append.mp hx with hx | hx
  · exact rh.xds x hx
  · have hd : d = some x := by
      cases d with
      | none => simp at hx
      | some y => simp at hx; rw [hx]
    obtain ⟨fs, h⟩ := dk x hd
    refine ⟨⟨fs, h⟩, ?_⟩
    cases e : S x with
    | none => rfl
    | some c =>
      have kk := rh.cells x c e
      cases c with
      | lst ds => obtain ⟨vs, h1, _⟩ := kk; rw [h] at h1; cases h1
      | ins C fs => obtain ⟨_, _, _, _, h1, _⟩ := kk; rw [h] at h1; cases h1
variable {n : Str} {CN : Addr} {body suite : List Stmt} {b₀ : Stmt} {np pos' : Pos} {mb : MS} {nmS : Str → Option Str} {wrap : Str → EN.D}
theorem s_try (gd : Gd F X W k) (hst : X.stack = X.env :: X.outer) (hf : X.env.frame = some X.env.locals) (hi : X.N[i]? = some n) (hln : X.env.kindOf n = some .local) (hc : Names X x (.ref CN))
    (hbody : ∀ (W' : WX) (pn : List (Addr × Obj)) (xe : Value → Shared → Prop), Gd F (X.tr pn xe) W' k → PSs (X.tr pn xe) body (tS F W' mb))
    (hsu : ∀ (F' : Fx) (a : Addr) (oe : Obj) (D : Addr) (d : Option Addr) (pn : List (Addr × Obj)), FxLe F F' → L2N.Zn (.ref D) d oe → (∃ vs, oe.data = .fields vs) → (∀ x, d = some x → x ∈ F'.xds) → PSs (X.suite a ((a, oe) :: pn)) (b₀ :: suite) (tSu F' i a D nm wrap))
    (near : ∀ y t C, nmS y = some t → F.mg y = some (.ref C) → PySem.W.exmOne X.K (.ref C) (.ref CN) = some true ∧ nm C = some t) :
    PS X (.Try body [.ExceptHandler (some (.Name x np)) (some n) (b₀ :: suite) pos'] [] [] pos) (tS F W (.tryN i mb nmS wrap)) := by
  let ts : Addr → Value → Option Addr → TS := fun a cls d Dd σ H => ∃ D F', cls = .ref D ∧ FxLe F F' ∧ (∀ x, d = some x → x ∈ F'.xds) ∧ tSu F' i a D nm wrap Dd σ H
  refine (L2N.ps_try_as (tb := fun W' => tS F W' mb) (ts := ts) (Wout := W0) hst hf gd.cx.nd hi hln hc takes_no (fun W' pn xe tk ps => hbody W' pn xe ⟨⟨gd.cx.hK, gd.cx.hmg, gd.cx.calm, gd.cx.nd, gd.cx.units⟩, tk, gd.rm, ps⟩) (fun a oe cls d pn hz hfl => ?_)).imp ?_
  · constructor
    rintro pins s σ H Dd I ⟨D, F', rfl, le, hx, h⟩
    exact (hsu F' a oe D d pn le hz hfl hx).run pins s σ H Dd I h
  · rintro Dd σ H ⟨ρ, S, Z, sl, rh, h⟩
    refine ⟨ρ, S, Z, sl, rh, mb.mono (fun _ _ q => q) (fun _ _ q => q) (fun y ρ' S' ⟨t, e, l, q⟩ C d σ' H' hm st sl' dk => ?_) h⟩
    obtain ⟨n1, n2⟩ := near y t C e hm
    refine ⟨true, n1, fun _ a ha => ?_, fun z => Bool.noConfusion z⟩
    obtain ⟨F', le, hx, rh'⟩ := xds_more st.2 dk
    refine ⟨C, F', rfl, le, hx, S', Z, t, ?_, rh', n2, fun v H2 st2 r => q v H2 (st.trans ⟨st2.1, st2.2.down le⟩) (r.conv le.mg.symm le.K.symm)⟩
    have hlen : i < σ'.length := by rw [sl'.len]; exact l
    rw [List.getElem?_set_self hlen]
theorem su_str {a D : Addr} {d : Option Addr} {oe : Obj} {pn : List (Addr × Obj)} (cx : CtxOk F X) (rm : Room k X.A) (fn : FnN F X.prog X.w x j nm) (hk : j ≤ k) (hg : Gl X x) (hN : X.N[i]? = some y) (hz : L2N.Zn (.ref D) d oe) (hf : ∃ vs, oe.data = .fields vs) (hxd : ∀ x, d = some x → x ∈ F.xds) {rp : Pos}
    (hv : Vis X.env.scope y := by first | exact Or.inl rfl | exact Or.inr (Or.inl rfl) | exact Or.inr (Or.inr rfl)) (hdb : (x == ("__debug__" : Str)) = false := by decide) (hd : (y == ("__debug__" : Str)) = false := by decide) (hcd : (y == ("__classdict__" : Str)) = false := by decide)
    (he : starEach [.Name y p1] X.env = (false, eval (.Name y p1) X.env) :: starEach [] X.env := by rfl) :
    PSs (X.suite a ((a, oe) :: pn)) [.Return (some (.Call (.Name x p) [.Name y p1] [] pos)) rp] (tSu F i a D nm .str) :=
  (pss_one (ps_ret (e_names (i := i) cx rm fn hk hg hN hz hf hxd hv hdb hd hcd he))).imp fun Dd σ H ⟨S, Z, t, h1, h2, h3, h4⟩ => ⟨S, Z, t, h1, h2, h3, fun H' st => h4 _ H' st (.str t)⟩
theorem su_pair {a D : Addr} {d : Option Addr} {oe : Obj} {pn : List (Addr × Obj)} {tp np : Pos} {kk jj : Nat} (cx : CtxOk F X) (rm : Room k X.A) (fn : FnN F X.prog X.w x j nm) (hk : j ≤ k) (hg : Gl X x) (hN : X.N[i]? = some y) (hz : L2N.Zn (.ref D) d oe) (hf : ∃ vs, oe.data = .fields vs) (hxd : ∀ x, d = some x → x ∈ F.xds) {rp : Pos}
    (hv : Vis X.env.scope y := by first | exact Or.inl rfl | exact Or.inr (Or.inl rfl) | exact Or.inr (Or.inr rfl)) (hdb : (x == ("__debug__" : Str)) = false := by decide) (hd : (y == ("__debug__" : Str)) = false := by decide) (hcd : (y == ("__classdict__" : Str)) = false := by decide)
    (he : starEach [.Name y p1] X.env = (false, eval (.Name y p1) X.env) :: starEach [] X.env := by rfl)
    (he1 : starEach [.Constant .none jj np, .Call (.Name x p) [.Name y p1] [] pos] X.env = (false, eval (.Constant .none jj np) X.env) :: starEach [.Call (.Name x p) [.Name y p1] [] pos] X.env := by rfl) (he2 : starEach [.Call (.Name x p) [.Name y p1] [] pos] X.env = (false, eval (.Call (.Name x p) [.Name y p1] [] pos) X.env) :: starEach [] X.env := by rfl) :
    PSs (X.suite a ((a, oe) :: pn)) [.Return (some (.Tuple [.Constant .none jj np, .Call (.Name x p) [.Name y p1] [] pos] kk tp)) rp] (tSu F i a D nm fun t => .tuple [.none, .str t]) :=
  (pss_one (ps_ret (pe_tupF (pa_cons (X := X.suite a ((a, oe) :: pn)) pe_non (pa_cons (e_names (i := i) cx rm fn hk hg hN hz hf hxd hv hdb hd hcd he) pa_nil he2) he1)))).imp fun Dd σ H ⟨S, Z, t, h1, h2, h3, h4⟩ => ⟨S, Z, t, h1, h2, h3, fun H' st => ⟨by show 2 ≤ sizeLine; decide, fun p its hp => h4 _ _ (st.trans (.same st.2 (same_upd hp))) (Rep.newT st.2 hp (.cons .non (.cons (.str t) .nil)))⟩⟩
end
end EN

/-! == E11 == -/
set_option Elab.async false
set_option linter.all false
set_option maxRecDepth 100000
set_option maxHeartbeats 4000000
set_option autoImplicit false
/-! E11: the law's own helpers on errors. -/
namespace EN
open PySem PySem.Spec PyProof.Rows L2 HotX L2H
section
variable {P : Program} {w : World} {F0 : Fx} {x : Str} {k j : Nat} {nm : Addr → Option Str} {X : Cx} {F : Fx} {W : WX} {S : Sto}
/-- the place in the body of names(e) -/
structure HotOk (F : Fx) (X : Cx) (D a : Addr) (d : Option Addr) (oe : Obj) : Prop where
  er : ErrAt F X D a d oe
  nd : X.N.Nodup
  hot : HotC X
  fn : ∀ y, X.fn y = true
  hmg : X.mg = F.mg
  hK : X.K = F.K
theorem fnN_of {st : Stmt} {f : Addr} {fd : FuncData} {N ps : List Str} {ms : Addr → Addr → MS} (Fn : Fun F0.K x x st f fd) (gm : F0.mg x = some (.ref f)) (hb : Binds F0.K fd ps []) (Sc : FnScope N ps (defScope st)) (hn : ps.length = 1)
    (exc : ∀ D t, nm D = some t → L2.ExcC F0.K D)
    (body : ∀ (F : Fx) (base : Heap) (cdv : Value) (A : Around) (outer : List Env) (s : Shared) (H : Hp) (E : XK) (a D : Addr) (d : Option Addr) (oe : Obj) (t : Str), FxLe F0 F → nm D = some t → HotOk F (cxH (L2N.CX P w) P w F.K F.mg base N x (defScope st) f cdv A outer s H E (a, oe)) D a d oe →
      PSs (cxH (L2N.CX P w) P w F.K F.mg base N x (defScope st) f cdv A outer s H E (a, oe)) (defBody st) (tS F W0 (ms a D)))
    (hc : ∀ a D t S Q, nm D = some t → Q (.str t) S → (ms a D).run (startD N [refD a]) S (fun _ _ => False) Q (fun _ _ _ => False)) : FnN F0 P w x (k + 1) nm := by
  refine ⟨f, fd, ps, hn, gm, Fn.kp, hb, fun F base A outer s H args a D d oe t S Z Q E le hr hot pin e0 bnd hz hf ht rh hxd q => ?_⟩
  have Fn' : Fun F.K x x st f fd := by rw [le.K]; exact Fn
  refine run_hot Fn' Sc hr hot pin e0 bnd (vs := [.ref a]) (.cons rfl .nil) (by rw [hn]; rfl) fun cdv rm => ?_
  have ho : HotOk F (cxH (L2N.CX P w) P w F.K F.mg base N x (defScope st) f cdv A outer s H E (a, oe)) D a d oe :=
    ⟨⟨by show L2.ExcC F.K D; rw [le.K]; exact exc D t ht, hz, hf, List.mem_singleton.mpr rfl, hxd⟩, Sc.nd, ⟨(a, oe), hot, List.mem_singleton.mpr rfl⟩, fun _ => rfl, rfl, rfl⟩
  refine ⟨_, body F base cdv A outer s H E a D d oe t le ht ho, startD N [refD a], S, Z, sl_start (vs := [.ref a]) (.cons (.ref a) .nil), rh, ?_⟩
  refine (ms a D).mono (fun _ _ z => z.elim) (fun d S' h => h) (fun _ _ _ z => z.elim) (hc a D t S _ ht fun v H' st r => ?_)
  cases r
  exact q H' st
def isE (i : Nat) (a : Addr) (b : Bool) : M D := (M.var i).bind fun d => .opt fun _ => if asRef d = some a then some (.bool b) else none
def pick : List Str → List Bool → List Str
  | w :: ws, b :: bs => if b then w :: pick ws bs else pick ws bs
  | _, _ => []
theorem lc_pick {vs : List Nat} {i j : Nat} {K : List D → Sto → Prop} (hij : i ≠ j) : ∀ (ws : List Str) (bs : List Bool) (acc : List D) (ρ : Lo) (S : Sto), i < ρ.length → j < ρ.length → acc.length + ws.length ≤ sizeLine → K (acc ++ (pick ws bs).map .str) S →
    lcG vs (tgT [i, j]) (M.bool (.var j)) (.var i) K (zipL (ws.map .str) (bs.map .bool)) acc ρ S
  | [], bs, acc, ρ, S, _, _, _, h => by
    have : zipL ([].map PyData.str) (bs.map .bool) = [] := by unfold zipL; cases bs <;> rfl
    rw [this]
    simpa [pick, lcG] using h
  | w :: ws, [], acc, ρ, S, _, _, _, h => by simpa [zipL, pick, lcG] using h
  | w :: ws, b :: bs, acc, ρ, S, hi, hj, hl, h => by
    have l1 : i < (wipeD ρ vs).length := by rw [wipeD_length]; exact hi
    have l2 : j < (wipeD ρ vs).length := by rw [wipeD_length]; exact hj
    refine ⟨_, rfl, .bool b, ?_, b, rfl, ?_⟩
    · rw [List.getElem?_set_self (by rw [List.length_set]; exact l2)]
    · cases b with
      | false => exact lc_pick hij ws bs acc ρ S hi hj (by rw [List.length_cons] at hl; omega) (by simpa [pick] using h)
      | true =>
        refine ⟨.str w, ?_, by rw [List.length_cons] at hl; omega, lc_pick hij ws bs _ ρ S hi hj (by rw [List.length_cons] at hl; rw [List.length_append]; simp; omega) (by simpa [pick] using h)⟩
        rw [List.getElem?_set_ne (Ne.symm hij), List.getElem?_set_self l1]
theorem s_setN {i : Nat} {y : Str} {e : Expr} {m : M D} {p' pos : Pos} (nd : X.N.Nodup) (hi : X.N[i]? = some y) (hx : Loc X.env.scope y) (he : PE X e (tE F W m)) (hs : swapsWith e (some (.Name y p')) pos.line X.env = pure false := by rfl)
    (hf : X.fn y = true ∨ X.env.scope.names.lookup y = some .local := by first | exact .inl rfl | exact .inr rfl) : PS X (.Assign [.Name y p'] e pos) (tS F W (.asg m (tgN i))) :=
  (ps_set nd hi hx he hs hf).imp fun D σ H ⟨ρ, S, Z, sl, rh, h⟩ => ⟨ρ, S, Z, sl, rh, exprS (Q := fun d S1 => ∃ ρ', tgN i d ρ = some ρ' ∧ nxS F D H S Z ρ' S1) sl h fun v d H1 S1 st r sl1 ⟨ρ', e, q⟩ => by
    cases e
    exact q _ H1 st (sl1.set i r)⟩
theorem hotX_blk {s : Shared} {H : Hp} {fp : List Addr} {scope : Scope} {ce : Env} (g : HotG X s H fp) : EN.HotX (X.blk s H scope ce fp) := fun pins σ H' s' I => (hotG_at g I).elim fun x1 h => ⟨x1, h.1⟩
/-- g(call): what call does, and the names of its error -/
def cErr (nm : Str → Option Str) (ok : D → D) (wrap : Str → D) (cc : C2) (d0 : D) : C2 := ⟨fun ds S Q E => ds = [d0] ∧ cc.run [] S (fun d S1 => Q (ok d) S1) (fun x S1 => ∃ t, nm x = some t ∧ Q (wrap t) S1),
  fun q e h => ⟨h.1, cc.mono (fun _ _ k => q _ _ k) (fun _ _ ⟨t, h1, k⟩ => ⟨t, h1, q _ _ k⟩) h.2⟩⟩
end
end EN

/-! == E12 == -/
set_option Elab.async false
set_option linter.all false
set_option maxRecDepth 100000
set_option maxHeartbeats 4000000
set_option autoImplicit false
/-! E12: small words for the printed proofs with lambdas; the script. -/
namespace EN
open PySem PySem.Spec PyProof.Rows L2
section
variable {F F' : Fx} {X : Cx} {W : WX} {P : Program} {w : World} {base : Heap}
theorem FxLe.none (le : FxLe F F') {x : Str} (h : F.mg x = none) : F'.mg x = none := by rw [le.mg]; exact h
theorem GlC.up (le : FxLe F F') {x : Str} {d : D} (h : GlC F x d) : GlC F' x d := by
  obtain ⟨v, u, h1, h2, h3⟩ := h.ex
  exact ⟨v, u, by rw [le.mg]; exact h1, h2, fun H S Z => (h3 H S Z).conv le.mg le.K⟩
theorem GlC.ga {x : Str} (h : GlC F x (fnD x)) : GlA F x := by
  obtain ⟨v, u, h1, h2, h3⟩ := h.ex
  obtain ⟨a, rfl, h4, h5⟩ := rep_fnD (h3 (fun _ => none) (fun _ => none) (fun _ => False))
  exact ⟨a, h4, h5⟩
/-- what a name may hold that is called -/
structure CalG (F : Fx) (P : Program) (w : World) (base : Heap) (G : D → C2 → Prop) (j n : Nat) : Prop where
  here : ∀ d c, G d c → CalD F P w base d j n c
  up : ∀ (F' : Fx) (base' : Heap), FxLe F F' → BaseLe F.K F.mg base base' → ∀ d c, G d c → CalD F' P w base' d j n c
/-- where the code object of a def with lambdas and its table stand -/
structure LamT (F : Fx) (x : Str) (cd P : Addr) : Prop where
  tb : ∀ base : Heap, F.K.In base → LamX.TabB base F.mg cd P
  mem : (P, x ++ ".<locals>." ++ "<lambda>") ∈ F.T
  uniq : ∀ p ∈ F.T, p.1 = P → p.2 = x ++ ".<locals>." ++ "<lambda>"
theorem LamT.ok {x : Str} {cd Pt : Addr} (t : LamT F x cd Pt) (hmg : X.mg = F.mg) (hK : X.K = F.K) (hq : X.env.qual = x ++ ".<locals>.") (hcode : X.env.code = .ref cd) {scope : Scope} {ps fr N : List Str} {js : List Nat} (hfree : NdefX.ndefB X.env.scope scope fr = true)
    (hat : js.map (fun j => X.N[j]?) = fr.map some) (hsc : NdefX.nscB N ps fr scope = true) (hlen : N.length = ps.length + fr.length) (nf : NoFr X fr) : LamOk F X scope ps fr N js cd Pt :=
  ⟨by rw [hmg, hK]; exact t.tb _, hcode, by rw [hq]; exact t.mem, by rw [hq]; exact t.uniq, NdefX.ndef_free hfree, NdefX.ndef_fr hfree, hat, NdefX.nscope_by hsc, hlen, nf⟩
/-! ### the script -/
def M.lenS (F : Fx) (i : Nat) : M D := ⟨fun ρ S Q _ => ∃ a ns, ρ[i]? = some (some (refD a)) ∧ F.scr a = some ns ∧ Q (.int (ns.length : Nat)) S, fun q _ ⟨a, ns, h1, h2, h⟩ => ⟨a, ns, h1, h2, q _ _ h⟩⟩
def M.ixS (F : Fx) (i : Nat) (m : M D) : M D := ⟨fun ρ S Q E => ∃ a ns, ρ[i]? = some (some (refD a)) ∧ F.scr a = some ns ∧ m.run ρ S (fun d S1 => ∃ k, (asI d).bind (atI ns) = some k ∧ Q (.int k) S1) E,
  fun q e ⟨a, ns, h1, h2, h⟩ => ⟨a, ns, h1, h2, m.mono (fun _ _ ⟨k, h3, h4⟩ => ⟨k, h3, q _ _ h4⟩) e h⟩⟩
variable {x : Str} {p p2 pos : Pos} {i : Nat} {e : Expr} {m : M D}
theorem e_lenS (cx : CtxOk F X) (hg : Gl X "len") (hm : X.mg "len" = none) (hN : X.N[i]? = some x) (hv : Vis X.env.scope x := by first | exact Or.inl rfl | exact Or.inr (Or.inl rfl) | exact Or.inr (Or.inr rfl)) (hd : (x == ("__debug__" : Str)) = false := by decide) (hcd : (x == ("__classdict__" : Str)) = false := by decide)
    (he : starEach [.Name x p2] X.env = (false, eval (.Name x p2) X.env) :: starEach [] X.env := by rfl) : PE X (.Call (.Name "len" p) [.Name x p2] [] pos) (tE F W (M.lenS F i)) :=
  (pe_callB call_len_seq hg hm PySem.boot_len (pa_cons (pe_var hN hv hd hcd) pa_nil he) (he := he)).imp fun σ H Q ⟨ρ, S, Z, sl, rh, a, ns, e1, e2, q⟩ => by
    obtain ⟨v, h1, h2⟩ := sl.get i _ e1
    obtain rfl := rep_refD h2
    have hs := (rh.scr a ns e2).seq
    rw [← cx.hK] at hs
    refine ⟨.ref a, h1, a, _, rfl, .inl hs, ?_⟩
    rw [List.length_map]
    exact q _ H (.refl rh) (.int _)
theorem e_ixS (cx : CtxOk F X) (hN : X.N[i]? = some x) (hb : PE X e (tE F W m)) (hs : PlainIx e := by intro _ _; rfl) (hv : Vis X.env.scope x := by first | exact Or.inl rfl | exact Or.inr (Or.inl rfl) | exact Or.inr (Or.inr rfl)) (hd : (x == ("__debug__" : Str)) = false := by decide) (hcd : (x == ("__classdict__" : Str)) = false := by decide) :
    PE X (.Subscript (.Name x p2) e pos) (tE F W (M.ixS F i m)) :=
  (pe_ix ix_list (pe_var (i := i) hN hv hd hcd) hb hs).imp fun σ H Q ⟨ρ, S, Z, sl, rh, a, ns, e1, e2, h⟩ => by
    obtain ⟨v, h1, h2⟩ := sl.get i _ e1
    obtain rfl := rep_refD h2
    refine ⟨.ref a, h1, ρ, S, Z, sl, rh, m.mono (fun d S1 ⟨k, hk, q⟩ y H1 st r => ?_) (fun _ _ z => z) h⟩
    rw [Option.bind_eq_some_iff] at hk
    obtain ⟨n, h3, h4⟩ := hk
    rw [asI_eq h3] at r
    cases r
    have hs := (st.2.scr a ns e2).seq
    rw [← cx.hK] at hs
    refine ⟨a, _, n, .int k, rfl, rfl, hs, ?_, q _ _ st (.int k)⟩
    unfold atI at h4 ⊢
    rw [List.length_map]
    rw [Option.bind_eq_some_iff] at h4 ⊢
    obtain ⟨j, h5, h6⟩ := h4
    exact ⟨j, h5, by rw [List.getElem?_map, h6]; rfl⟩
end
end EN

/-! == E13 == -/
set_option Elab.async false
set_option linter.all false
set_option maxRecDepth 100000
set_option maxHeartbeats 4000000
set_option autoImplicit false
/-! E13: the error with an __init__ of its own: super().__init__(f'more than {limit}'); self.limit = limit. -/
namespace EN
open PySem PySem.Spec PyProof.Rows PySem.W PySem.Calls PySem.HandSPX
/-- its text, with the places open -/
def tmA (p1 p2 : Pos) : Arguments := { posonlyargs := [], args := [⟨"self", none, p1⟩, ⟨"limit", none, p2⟩], vararg := none, kwonlyargs := [], kw_defaults := [], kwarg := none, defaults := [] }
def tmB (q1 q2 q3 q4 q5 q6 q7 q8 q9 : Pos) (r1 r2 r3 r4 : Pos) : List Stmt :=
  [.Expr (.Call (.Attribute (.Call (.Name "super" q1) [] [] q2) "__init__" q3) [.JoinedStr [.Constant (.str "more than ") 0 q4, .FormattedValue (.Name "limit" q5) (-1) none q6] q7] [] q8) q9,
   .Assign [.Attribute (.Name "self" r1) "limit" r2] (.Name "limit" r3) r4]
def tmS : Scope := { kind := .function, names := [(PySem.Str.ofString "self", .local), (PySem.Str.ofString "limit", .local), (PySem.Str.ofString "__class__", .free), (PySem.Str.ofString "super", .globalImplicit)], isGenerator := false, isCoroutine := false, more := [] }
/-- what the written part says of the class at C, of its __init__ at fI -/
structure TmTxt (P : Program) (K : Frag) (mg : Str → Option Value) (C fI : Addr) : Prop where
  gC : mg "TooMany" = some (.ref C)
  gS : mg "super" = none
  cls : ∃ nm q N bs bm sn sub ab col dd k0 k1 k2 k3 k5, K.lookup C = some (excClassObj nm q C N bs bm true sn sub ab col dd k0 k1 k2 k3 k5 "ValueError.__new__") ∧ refsVE bm = true ∧ alongIn K "__init__" bm = some (some (.builtin "ValueError.__init__"))
  sa : findIn K (.ref C) "__setattr__" = some (some (.builtin "object.__setattr__"))
  noL : findIn K (.ref C) "limit" = some none
  iC : findIn K (.ref C) "__init__" = some (some (.ref fI))
  tC : typeIn K (.ref fI) = some (.type "function")
  kC : keepIn K (.ref C) = true
  exC : subIn K (.ref C) (.type "BaseException") = some true
  vC : subIn K (.ref C) (.type "ValueError") = some true
  mC : mroIn K C (.ref C) = some true
  tyC : typeIn K (.ref C) = some (.type "type")
  opq : nsIn K cStatics "thirdparty.any" = some none
  top : (P.main.scope.names.lookup ("super" : Str)).isSome = false
  fn : ∃ (oc : Value) (od : Option Addr) (doc pm : Value) (an : Option Addr) (cda cc : Addr) (ct : Value) (osl : Array (Option Value)) (p1 p2 q1 q2 q3 q4 q5 q6 q7 q8 q9 r1 r2 r3 r4 : Pos),
    (q3.endLine == q8.line) = true ∧ K.lookup fI = some ⟨oc, od, .func (ksFn "__init__" "TooMany.__init__" (tmA p1 p2) (tmB q1 q2 q3 q4 q5 q6 q7 q8 q9 r1 r2 r3 r4) tmS .none .none doc pm an (.ref cda) ct cc), osl⟩ ∧ codeIn K (.ref cda) "TooMany.__init__" = true ∧
    (∃ ccl cdd vs ccs file tf, K.lookup cda = some ⟨ccl, cdd, .fields vs, ccs⟩ ∧ vs[2]? = some (.str file tf) ∧ ((P.main.file : Str) == file) = true) ∧ (∃ cl cld csl, K.lookup cc = some ⟨cl, cld, .cell (some (.ref C)), csl⟩)
/-- what __init__ leaves of a fresh error at x -/
structure TmEnd (h h' : Heap) (x C dx : Addr) (v : Value) : Prop where
  keep : ∀ b o, b ≠ x → h.get? b = some o → h'.get? b = some o
  obj : ∃ t1, h'.get? x = some (({ cls := .ref C, dict := some dx, data := .fields #[.ref t1, .none, .none, .none, .bool false, .none] } : Obj))
  dbig : h.objs.size ≤ dx
  dne : dx ≠ x
  ns : h'.Ns1 dx (fun y => if y = "limit" then some v else none)
section
variable {prog : Program} {w : World} {A : Around} {E : Value → Shared → Prop} {R : Result → Shared → Prop} {s : Shared} {K : Frag} {mg : Str → Option Value} {C fI : Addr}
theorem long_ok {n : Int} (h : n.natAbs.log2 < 1000) : (Str.empty ++ ("more than " : Str) ++ Str.ofString (toString n)).length ≤ sizeLine := by
  have e := int_text_length_le (k := 1000) (by decide) h
  rw [strLen_append, PySem.ofString_length, sizeLine_eq]
  have : (Str.empty ++ ("more than " : Str)).length = 10 := by decide +kernel
  omega
/-- the bound __init__ of ValueError, called -/
theorem tm_bound {u x t0 : Addr} {rest : List Value} {Q : Value → Shared → Prop} {nm q : Str} {N : Addr} {bs bm : List Value} {sn : List Str} {sub : List Value} {ab : Bool} {col : Option Bool} {dd : Option Addr} {k0 k1 k2 k3 k5 : Option Value}
    (hC : s.heap.get? C = some (excClassObj nm q C N bs bm true sn sub ab col dd k0 k1 k2 k3 k5 "ValueError.__new__")) (hx : s.heap.get? x = some (excO C t0)) (hu : s.heap.get? u = some (kxs_mw "ValueError.__init__" x)) (hz : rest.length ≤ sizeLine)
    (h : ∀ h' t1, (∀ b o, b ≠ x → s.heap.get? b = some o → h'.get? b = some o) → h'.get? x = some (excO C t1) → Q .none { s with heap := h' }) : wpAny (model prog w) A (call (.ref u) rest) Q E s := by
  obtain ⟨hp, g, d, tk, os⟩ := s
  refine wpAny_call (codeAny_of_tree ?_)
  show wpAny _ A.in1 (callAny (.ref u) ⟨rest, []⟩) _ _ _
  simp only [callAny]
  refine wpAny_bind (wpAny_load hu ?_)
  have w1 : (Value.type "method-wrapper" != Value.type "method") = true := by decide
  have w2 : (Value.type "method-wrapper" == Value.type "method-wrapper") = true := by decide
  simp only [kxs_mw, w1, w2, Bool.or_true, if_true]
  refine wpAny_bind (check_bound_init F.excBase_ValueError.toExcCallFacts hC hx rfl ?_)
  refine wpAny_bind (wpAny_pure (wpAny_pure ⟨plainId_quiet F.excBase_ValueError.init.plain _, codeAny_builtin F.excBase_ValueError.initEntry ?_⟩))
  exact exc_init_tree (cls := .ref C) (t0 := t0) (dv := none) (c2 := .none) (c3 := .none) (b4 := .bool false) hx hz fun h' k e _ => h h' _ k e
theorem tm_init (T : TmTxt prog K mg C fI) {x t0 : Addr} {n : Int} {tn : Tok} (X : K.In s.heap) (hlim : s.heap.NoLimit) (hx : s.heap.get? x = some (excO C t0)) (hnx : K.lookup x = none) (hroom : A.depth < recursionLimit)
    (G : s.heap.Ns mainGlobals mg) (B : ∃ mb, s.heap.Ns builtinsNs mb ∧ mb "super" = some (.type "super")) (hn : n.natAbs.log2 < 1000)
    (hq : ∀ h' tk dx, TmEnd s.heap h' x C dx (.int n tn) → R (.ok (.ret .none)) { s with heap := h', toks := tk }) :
    codeAny (model prog w) A (.call (.ref fI) ⟨[.ref x, .int n tn], []⟩) R s := by
  obtain ⟨oc, od, doc, pm, an, cda, cc, ct, osl, p1, p2, q1, q2, q3, q4, q5, q6, q7, q8, q9, r1, r2, r3, r4, hpos, ho, hcd, ⟨ccl, cdd, vs, ccs, file, tf, hcode, hvs, hfile⟩, cl, cld, csl, hcell⟩ := T.fn
  obtain ⟨nm, q, N, bs, bm, sn, sub, ab, col, dd, k0, k1, k2, k3, k5, hC, hbm, hal⟩ := T.cls
  have hpo : ∀ few o env, methodCallPos few o env q3 q8 = pure q8 := fun few o env => by
    unfold methodCallPos
    rw [hpos, Bool.or_true, if_pos rfl]
  obtain ⟨mb, hmb, hsup⟩ := B
  have hcl : clsIn K C = some { name := nm, bases := bs, mro := .ref C :: bm, ns := N, qualname := q, hasDict := true, slotNames := sn, subclasses := sub, abstract := ab, collection := col, hasDel := false } := by unfold clsIn; rw [hC] <;> rfl
  refine ks_codeAny_call_defAt (fd := ksFn "__init__" "TooMany.__init__" (tmA p1 p2) (tmB q1 q2 q3 q4 q5 q6 q7 q8 q9 r1 r2 r3 r4) tmS .none .none doc pm an (.ref cda) ct cc) (body := tmB q1 q2 q3 q4 q5 q6 q7 q8 q9 r1 r2 r3 r4)
    (binds := [("self", .ref x), ("limit", .int n tn)]) hroom (X _ _ ho) rfl hlim (codeRec_of X hcd) rfl (.of_eq (by first | rfl | with_unfolding_all rfl)) (show ∀ y ∈ tmS.names, y.2 ≠ .cell by decide) (fun y hy => by
      simp only [List.mem_cons, List.not_mem_nil, or_false] at hy
      rcases hy with rfl | rfl <;> rfl) (fun h₁ hns hk₁ => ?_)
  have X₁ : K.In h₁ := X.keeps hk₁
  have hL : s.heap.objs.size ≠ x := Nat.ne_of_gt (Heap.lt_size hx)
  have hx₁ := hk₁ _ _ hx
  refine ks_wpAt_execs_cons (ks_wpAt_Expr_any (ks_wpAt_MethodCall (pl := do return (← importBound (.Call (.Name "super" q1) [] [] q2) (callEnv (ksFn "__init__" "TooMany.__init__" (tmA p1 p2) (tmB q1 q2 q3 q4 q5 q6 q7 q8 q9 r1 r2 r3 r4) tmS .none .none doc pm an (.ref cda) ct cc) s.heap.objs.size fI)).getD true) ?_ (by
    rw [arm_eval_Call]
    unfold methodCall
    simp only [hpo, pure_bind]
    rfl)))
  refine ks_wpAt_super_base (env := ksEnv "TooMany.__init__" tmS s.heap.objs.size fI (.ref cda) cc) (by rfl) (by rfl) (by decide) rfl (X₁ _ _ ho) rfl rfl rfl (X₁ _ _ hcode) rfl hvs hfile T.top ?_
  refine ks_loadName_global rfl (by rfl) (loadGlobal_builtin (env := ksEnv "TooMany.__init__" tmS s.heap.objs.size fI (.ref cda) cc) (G.keeps hk₁) T.gS (hmb.keeps hk₁) hsup ⟨rfl, ?_⟩)
  refine wpAny_loadName_free rfl (by rfl) rfl ⟨_, X₁ _ _ hcell, rfl⟩ ?_
  refine wpAny_loadName_local (v := .ref x) rfl (by rfl) hns (by rfl) ?_
  refine ks_wpAny_isType_cls (X₁ _ _ hC) rfl ⟨rfl, ?_⟩
  refine ks_wpAny_call_super (X₁ _ _ hC) rfl hx₁ rfl (fun c e => by cases e) (looks_mroIn X₁ T.mC) (fun h₂ hso k₂ => ?_)
  have X₂ : K.In h₂ := X₁.keeps k₂
  have hx₂ := k₂ _ _ hx₁
  have IsV : Looks (model prog w) h₂ (isInstance (.ref x) (.type "ValueError")) true := (InstAt.type (C := C) (od := none) (ox := excO C t0) ⟨hx₂, rfl, rfl, trivial⟩).andThen (looks_subIn X₂ T.vC)
  refine kxs_getMethod kxs_ValueError (K := K) (l := bm) hso (looks_opaque X₂ T.opq) (l₀ := .ref C :: bm) (fun A Q E s k q => wpAny_bind ((looks_clsIn X₂ hcl) A _ E s k (wpAny_pure q))) (by simp [List.dropWhile_cons]) X₂ hal IsV (fun z => by
    have e1 := hnx; rw [z, hC] at e1; cases e1) (by decide) ?_
  have k₃ : ∀ b o, h₂.get? b = some o → (h₂.push (kxs_mw "ValueError.__init__" x)).get? b = some o := fun b o e => Heap.get?_push_of_some _ e
  have hu : (h₂.push (kxs_mw "ValueError.__init__" x)).get? h₂.objs.size = some (kxs_mw "ValueError.__init__" x) := Heap.get?_push_at rfl rfl
  have hns₃ := (hns.keeps k₂).keeps k₃
  -- the f-string, then the bound __init__
  refine kxs_callWith (i := "ValueError.__init__") (x := x) (by rfl) (evalArgs_plain ?_)
  refine Calls.spliced_cons (wpAny_JoinedStr (pos := q7) ?_)
  refine wpAny_Constant_str ⟨_, _, rfl, by decide, ?_⟩
  refine wpAny_FormattedValue_plain (wpAny_Name (wpAny_loadName_local (v := .int n tn) rfl (by rfl) hns₃ (by rfl) ?_))
  refine wpAny_formatField_int (Nat.lt_trans hn (by decide)) ⟨_, _, rfl, ?_, ?_, Calls.spliced_nil ⟨hu, ?_⟩⟩
  · exact long_ok hn
  · exact long_ok hn
  refine tm_bound (x := x) (X₂.keeps k₃ _ _ hC) (k₃ _ _ hx₂) hu (by show 1 ≤ sizeLine; rw [sizeLine_eq]; decide) fun h₄ t1 k₄ hx₄ => ?_
  -- self.limit = limit
  have keep : ∀ b o, b ≠ x → s.heap.get? b = some o → h₄.get? b = some o := fun b o hb e => k₄ b o hb (k₃ _ _ (k₂ _ _ (hk₁ b o e)))
  have X₄ : K.In h₄ := fun a o e => k₄ a o (fun z => by rw [z, hnx] at e; cases e) (X₂.keeps k₃ a o e)
  obtain ⟨oL, es, ep, hoL, rL⟩ := hns₃
  have hns₄ : h₄.Ns s.heap.objs.size (fun y => List.lookup y [("limit", Value.int n tn), ("self", .ref x)]) := ⟨oL, es, ep, k₄ _ _ hL hoL, rL⟩
  show PySem.wpAt _ _ _ (execs _ _) _ _ _
  refine wpAt_of_wpAny (wpAny_execs_cons (plainObj_wpAny_Assign_Attribute ?_))
  refine wpAny_Name (wpAny_loadName_local (v := .int n tn) rfl (by rfl) hns₄ (by rfl) ?_)
  refine wpAny_Name (wpAny_loadName_local (v := .ref x) rfl (by rfl) hns₄ (by rfl) ?_)
  refine set_plain X₄ (ox := excO C t1) (od := none) ⟨hx₄, rfl, rfl, trivial⟩ T.sa ?_
  refine exc_osa X₄ hx₄ hcl (show refsVE (.ref C :: bm) = true from hbm) rfl T.noL (fun h₅ tk₅ dx k₅ dn dne hx₅ hn₅ => ?_)
  have z1 : s.heap.objs.size < h₄.objs.size := Heap.lt_size (k₄ _ _ hL hoL)
  exact wpAny_execs_nil (hq h₅ tk₅ dx ⟨fun b o hb e => k₅ b o hb (keep b o hb e), ⟨t1, hx₅⟩, Nat.le_of_lt (Nat.lt_of_lt_of_le z1 dn), dne, hn₅⟩)
end
end EN

/-! == E13b == -/
set_option Elab.async false
set_option linter.all false
set_option maxRecDepth 100000
set_option maxHeartbeats 4000000
set_option autoImplicit false
/-! E13b: raise TooMany(n). -/
namespace EN
open PySem PySem.Spec PyProof.Rows L2
/-- a made TooMany: what was there stands, the error at e is new, its dict d holds the limit -/
structure TmMade (h h' : Heap) (e C d : Addr) (v : Value) : Prop where
  keep : ∀ b o, h.get? b = some o → h'.get? b = some o
  new : h.objs.size ≤ e
  obj : ∃ t1, h'.get? e = some (({ cls := .ref C, dict := some d, data := .fields #[.ref t1, .none, .none, .none, .bool false, .none] } : Obj))
  dbig : h.objs.size ≤ d
  dne : d ≠ e
  ns : h'.Ns1 d (fun y => if y = "limit" then some v else none)
section
open PySem.W PySem.Calls PySem.HandSPX
variable {prog : Program} {w : World} {A : Around} {E : Value → Shared → Prop} {R : Result → Shared → Prop} {s : Shared} {K : Frag} {mg : Str → Option Value} {C fI : Addr}
theorem tm_made (T : TmTxt prog K mg C fI) {n : Int} {tn : Tok} (X : K.In s.heap) (hlim : s.heap.NoLimit) (hroom : A.depth + 1 < recursionLimit) (G : s.heap.Ns mainGlobals mg) (B : ∃ mb, s.heap.Ns builtinsNs mb ∧ mb "super" = some (.type "super")) (hn : n.natAbs.log2 < 1000)
    (hq : ∀ h' tk e d, TmMade s.heap h' e C d (.int n tn) → R (.ok (.ret (.ref e))) { s with heap := h', toks := tk }) :
    codeAny (model prog w) A (.call (.ref C) ⟨[.int n tn], []⟩) R s := by
  obtain ⟨nm, q, N, bs, bm, sn, sub, ab, col, dd, k0, k1, k2, k3, k5, hC, hbm, _⟩ := T.cls
  obtain ⟨mb, hmb, hsup⟩ := B
  obtain ⟨hp, g, dr, tk, os⟩ := s
  let h2 := (hp.push (kdv_tup [.int n tn])).push (excO C hp.objs.size)
  have up : ∀ b o, hp.get? b = some o → h2.get? b = some o := fun b o e => Heap.get?_push_of_some _ (Heap.get?_push_of_some _ e)
  have at2 : h2.get? (hp.objs.size + 1) = some (excO C hp.objs.size) := by
    show ((hp.push (kdv_tup [.int n tn])).push (excO C hp.objs.size)).get? (hp.objs.size + 1) = _
    heap_get
  have nK : K.lookup (hp.objs.size + 1) = none := by
    cases e : K.lookup (hp.objs.size + 1) with
    | none => rfl
    | some o =>
      have y := Heap.lt_size (show hp.get? (hp.objs.size + 1) = some o from X _ _ e)
      exact absurd (Nat.lt_of_succ_lt y) (Nat.lt_irrefl _)
  refine call_own F.excBase_ValueError (fun Y => refsVE_contains Y bm hbm) (X _ _ hC) (looks_findIn X T.iC) (fun self => bind_fn X self T.tC) (by show 1 ≤ sizeLine; rw [sizeLine_eq]; decide) ?_
  refine tm_init (s := ⟨h2, g, dr, tk, os⟩) T (X.keeps up) (hlim.keeps up) at2 nK hroom (G.keeps up) ⟨mb, hmb.keeps up, hsup⟩ hn fun h' tk' dx M => ?_
  have big : hp.objs.size + 1 + 1 ≤ dx := by
    have z : h2.objs.size = hp.objs.size + 1 + 1 := by
      show ((hp.push (kdv_tup [.int n tn])).push (excO C hp.objs.size)).objs.size = _
      rw [Heap.size_push, Heap.size_push]
    exact Nat.le_trans (Nat.le_of_eq z.symm) M.dbig
  refine ⟨rfl, hq h' tk' (hp.objs.size + 1) dx ⟨fun b o e => M.keep b o ?_ (up b o e), Nat.le_succ _, M.obj, ?_, M.dne, M.ns⟩⟩
  · exact Nat.ne_of_lt (Nat.lt_succ_of_lt (Heap.lt_size e))
  · exact Nat.le_trans (Nat.le_trans (Nat.le_succ _) (Nat.le_succ _)) big
end
section
variable {F : Fx} {X : Cx} {W : WX} {C fI : Addr} {k : Nat}
theorem relO_tm {v : V} {u : Value} (r : RelV v u) (f : Str) : RelO (List.lookup f [(("limit" : Str), v)]) (if f = "limit" then some u else none) := by
  have e := relO_put (f := "limit") (y := v) (u := u) (fs := []) (mA := fun _ => none) r (fun _ => trivial) f
  exact e
/-- TooMany(e) -/
def tTm (C : Addr) (ta : TA) : L2.St → Hp → XK → Prop := fun σ H Q => ta σ H fun vs H1 => ∃ n : Int, vs = [.int n] ∧ n.natAbs.log2 < 1000 ∧ ∀ d, H1 d = none → Q (.ref C) (some d) (upd H1 d (.xd [(("limit" : Str), .int n)]))
theorem pmk_tm {a : Expr} {ta : TA} {p pos : Pos} (T : TmTxt X.prog X.K X.mg C fI) (hr : Room k X.A) (ha : PA X [a] ta) (hg : Gl X "TooMany")
    (he : starEach (a :: []) X.env = (false, eval a X.env) :: starEach [] X.env := by rfl) (hpl : (backTo pos (starEach [] X.env)).any (·.1) = false := by rfl) : L2N.PMk X (.Call (.Name "TooMany" p) [a] [] pos) (tTm C ta) := by
  intro pins s σ H Q I h
  refine wpAny_Call_Name_kw (ld_glob I hg T.gC ?_)
  refine PySem.W.callWith_K (h₀ := X.base) I.ok.mod.kin T.kC (thn (ha.run pos pins s σ H _ I h) fun us s1 ⟨vs, H1, I1, r1, n, ev, hn, q1⟩ => ⟨I1.kIn, ?_⟩) he hpl
  subst ev
  cases r1 with
  | cons rv rn =>
    cases rn
    obtain ⟨tn, rfl⟩ := rv
    obtain ⟨mb, b1, b2⟩ := I1.mod.blt
    have lim := I1.nolimit
    have gl : s1.heap.Ns mainGlobals X.mg := I1.mod.glob.keeps I1.bk
    have bl : ∃ mb, s1.heap.Ns builtinsNs mb ∧ mb "super" = some (.type "super") := ⟨mb, b1.keeps I1.bk, (b2 _ (by decide)).trans (by first | rfl | kernel_rfl)⟩
    obtain ⟨hp, g, dr, tk, os⟩ := s1
    refine wpAny_call (tm_made T I1.kIn lim (by have := hr.dp; omega) gl bl hn fun h' tk' e d M => ?_)
    show L2N.MkP X pins σ Q (.ref e) ⟨h', g, dr, tk', os⟩
    obtain ⟨t1, hoe⟩ := M.obj
    obtain ⟨G', g1, g2⟩ := restrict h' fun b => decide (b ≠ e)
    have gk : ∀ b, b ≠ e → G'.get? b = h'.get? b := fun b hb => g1 b (decide_eq_true hb)
    have ge : G'.get? e = none := g2 e (by simp)
    have low : ∀ {b : Addr} {o : Obj}, hp.get? b = some o → b ≠ e := fun {b o} q => Nat.ne_of_lt (Nat.lt_of_lt_of_le (Heap.lt_size q) M.new)
    have old : ∀ b o, hp.get? b = some o → G'.get? b = some o := fun b o q => (gk b (low q)).trans (M.keep b o q)
    have dOk : ObjOk X.prog X.w (upd H1 d (.xd [(("limit" : Str), .int n)])) G' d (.xd [(("limit" : Str), .int n)]) := ⟨_, M.ns.at fun o q => (gk d M.dne).trans q, fun f => relO_tm (v := .int n) (u := .int n tn) ⟨tn, rfl⟩ f⟩
    refine ⟨e, _, _, ⟨G', g, dr, tk', os⟩, _, .ref C, some d, rfl, I1.laid (t' := tk') old M.dbig dOk, fun b o q => ?_, ge, hoe, ⟨rfl, rfl, fun vs e => by cases e; rfl⟩, rfl, rfl, ?_, rfl, I1.bare, raises_own T.exC T.tyC, q1 d (I1.hok.fresh M.dbig)⟩
    · have hb : b ≠ e := fun z => by
        have q' : G'.get? b = some o := q
        rw [z, ge] at q'
        cases q'
      exact (gk b hb).symm.trans q
    · rw [upd_ne (Ne.symm M.dne)]
      exact I1.hok.fresh M.new
end
/-- raise x(m), m an int -/
def MS.raiseI (x : Str) (m : M D) : MS := ⟨fun ρ S _ _ xs => m.run ρ S (fun d S1 => (∃ n : Int, asI d = some n ∧ n.natAbs.log2 < 1000) ∧ xs x ρ S1) (fun y S1 => xs y ρ S1), fun _ _ h3 q => m.mono (fun _ _ z => ⟨z.1, h3 _ _ _ z.2⟩) (fun _ _ z => h3 _ _ _ z) q⟩
section
variable {F : Fx} {X : Cx} {W : WX} {C fI : Addr} {k : Nat} {a : Expr} {m : M D} {p pos pos2 : Pos}
theorem s_raiseI (cx : CtxOk F X) (tk : L2N.Takes X W) (rm : Room k X.A) (T : TmTxt X.prog X.K X.mg C fI) (hg : Gl X "TooMany") (ha : PE X a (tE F W m))
    (he : starEach (a :: []) X.env = (false, eval a X.env) :: starEach [] X.env := by rfl) (hpl : (backTo pos (starEach [] X.env)).any (·.1) = false := by rfl) :
    PS X (.Raise (some (.Call (.Name "TooMany" p) [a] [] pos)) none pos2) (tS F W (.raiseI "TooMany" m)) :=
  (L2N.ps_raise cx.calm tk (pmk_tm T rm (pa_cons ha pa_nil he) hg he hpl)).imp fun D σ H ⟨ρ, S, Z, sl, rh, h⟩ => by
    refine ⟨ρ, S, Z, sl, rh, exprS sl h fun v d H1 S1 st r sl1 ⟨⟨n, en, hn⟩, q⟩ => ?_⟩
    rw [asI_eq en] at r
    cases r
    refine ⟨n, rfl, hn, fun dx hd => ?_⟩
    have sm : Same H1 (upd H1 dx (.xd [(("limit" : Str), .int n)])) := fun b o e => by
      rw [upd_ne (ne_of_none e hd)]
      exact e
    have st2 : Stp F H1 S1 Z _ S1 := .same st.2 sm
    exact q C (some dx) _ _ (by rw [← cx.hmg]; exact T.gC) (st.trans st2) (sl1.mono st2.1) (fun x z => by cases z; exact ⟨_, upd_same⟩)
end
end EN

/-! == E14 == -/
set_option Elab.async false
set_option linter.all false
set_option maxRecDepth 100000
set_option maxHeartbeats 4000000
set_option autoImplicit false
/-! E14: more rules. -/
namespace EN
open PySem PySem.Spec PyProof.Rows L2
def M.listC (m : M D) : M D := m.bind fun d => (M.opt fun _ => asL d).bind M.mkc
section
variable {F : Fx} {X : Cx} {W : WX} {a : Expr} {m : M D} {x : Str} {p pos : Pos}
/-- list(x), a cell -/
theorem e_listC (cx : CtxOk F X) (hg : Gl X x) (hm : X.mg x = none) (hv : bootBuiltins x = some (.type "list")) (ha : PE X a (tE F W m)) (hn : x ≠ "__name__" := by decide) (hdb : (x == ("__debug__" : Str)) = false := by decide)
    (he : starEach [a] X.env = (false, eval a X.env) :: starEach [] X.env := by rfl) (hpl : (backTo pos (starEach [] X.env)).any (·.1) = false := by rfl) : PE X (.Call (.Name x p) [a] [] pos) (tE F W (M.listC m)) :=
  (pe_callTy call_list_of hg hm hv (pa_cons ha pa_nil he) hn hdb (he := he)).imp fun σ H Q ⟨ρ, S, Z, sl, rh, h⟩ => ⟨ρ, S, Z, sl, rh, run_step sl h fun v d H1 S1 s1 r1 sl1 h1 => by
    obtain ⟨ds, e, hz, q⟩ := h1
    unfold asL at e
    split at e
    · cases e
      cases r1 with
      | lst h1 s r => exact ⟨_, _, rfl, .inl (.of h1), fun p hp => q p (s1.2.free hp).1 _ _ ⟨ext_newC hp, s1.2.newC hp r⟩ (.ref p)⟩
    · cases e
      cases r1 with
      | tup h1 s r => exact ⟨_, _, rfl, .inr (sqF h1), fun p hp => q p (s1.2.free hp).1 _ _ ⟨ext_newC hp, s1.2.newC hp r⟩ (.ref p)⟩
    · cases e⟩
end
end EN

/-! == CM == -/
set_option Elab.async false
set_option linter.all false
set_option maxRecDepth 100000
set_option maxHeartbeats 4000000
set_option autoImplicit false
/-! CM: what the defs do that stand in several laws (printed by gen.py). -/
namespace EN
open PySem PySem.Spec PyProof.Rows L2
def m_is_whole : MS :=
  (.ret (.andV (.call1 false (isiD "int") (.var 0)) (.andV (.notV (.call1 false (isiD "bool") (.var 0))) (.chain (cmD .le) (cmD .le) (.var 1) (.var 0) (.var 2)))))

def m_is_pair (c_is_whole : C2) : MS :=
  (.seq (.ifS (.orB (.notB (.bool (.call1 false (isiD "tuple") (.var 1)))) (.orB (.bool (.op2 false false (cmD .ne) (.call1 false lenD (.var 1)) (.val (.int 2)))) (.notB (.bool (.call1 false allD (.lc (.items (.var 1)) [2] (tgN 2) (.val true) (.call 3 c_is_whole (.cons (.var 2) (.cons (.val (.int 0)) (.cons (.op2 false false (op2 .sub) (.var 0) (.val (.int 1))) .nil)))))))))) (.ret (.val (.bool false))) .skip)
    (.ret (.op2 false false (cmD .ne) (.op2 false false ixD (.var 1) (.val (.int 0))) (.op2 false false ixD (.var 1) (.val (.int 1))))))

def m_is_rising : MS :=
  (.ret (.call1 false allD (.lc (.zip (.cons (.var 0) (.cons (.slice false (.var 0) (.somI (.val (.int 1))) (.val none)) .nil))) [1, 2] (tgT [1, 2]) (.val true) (.op2 false false (cmD .lt) (.var 1) (.var 2)))))

def m_follows : MS :=
  (.ret (.call1 false allD (.lc2 (.items (.var 0)) [1, 2, 3, 4] (tgT [1, 2]) (.items (.var 0)) [3, 4] (tgT [3, 4]) (.bool (.op2 false false (cmD .eq) (.var 3) (.var 2))) (.op2 false false (cmD .inn) (.tup (.cons (.var 1) (.cons (.var 4) .nil))) (.var 0)))))

def m_is_good (c_is_whole : C2) (c_is_pair : C2) (c_is_rising : C2) (c_follows : C2) : MS :=
  (.seq (.ifS (.orB (.notB (.bool (.call1 false (isiD "tuple") (.var 0)))) (.orB (.bool (.op2 false false (cmD .ne) (.call1 false lenD (.var 0)) (.val (.int 2)))) (.notB (.bool (.call 3 c_is_whole (.cons (.op2 false false ixD (.var 0) (.val (.int 0))) (.cons (.val (.int 1)) (.cons (.val (.int 6)) .nil)))))))) (.ret (.val (.bool false))) .skip)
    (.seq (.ifS (.orB (.notB (.bool (.call1 false (isiD "tuple") (.op2 false false ixD (.var 0) (.val (.int 1)))))) (.notB (.bool (.call1 false allD (.lc (.items (.op2 false false ixD (.var 0) (.val (.int 1)))) [1] (tgN 1) (.val true) (.call 2 c_is_pair (.cons (.op2 false false ixD (.var 0) (.val (.int 0))) (.cons (.var 1) .nil)))))))) (.ret (.val (.bool false))) .skip)
    (.ret (.andV (.call 1 c_is_rising (.cons (.op2 false false ixD (.var 0) (.val (.int 1))) .nil)) (.call 1 c_follows (.cons (.op2 false false ixD (.var 0) (.val (.int 1))) .nil))))))

def m_is_row (c_is_whole : C2) : MS :=
  (.seq (.ifS (.orB (.notB (.bool (.call1 false (isiD "tuple") (.var 1)))) (.notB (.bool (.call1 false allD (.lc (.items (.var 1)) [2] (tgN 2) (.val true) (.call 3 c_is_whole (.cons (.var 2) (.cons (.val (.int 0)) (.cons (.op2 false false (op2 .sub) (.var 0) (.val (.int 1))) .nil))))))))) (.ret (.val (.bool false))) .skip)
    (.ret (.op2 false false (cmD .eq) (.call1 false sortedD (.var 1)) (.lstV (.rg1 (.var 0))))))

def m_need_order (c_is_good : C2) : MS :=
  (.ifS (.notB (.bool (.call 1 c_is_good (.cons (.var 0) .nil)))) (.raise "InvalidOrder") .skip)

def m_need_row (c_is_row : C2) : MS :=
  (.ifS (.notB (.bool (.call 2 c_is_row (.cons (.op2 false false ixD (.var 0) (.val (.int 0))) (.cons (.var 1) .nil))))) (.raise "InvalidRow") .skip)

def m_need_number (c_is_whole : C2) : MS :=
  (.ifS (.notB (.bool (.call 3 c_is_whole (.cons (.var 0) (.cons (.var 1) (.cons (.var 2) .nil)))))) (.raise "InvalidNumber") .skip)

def m_closed : MS :=
  (.seq (.asg (.tup (.cons (.call1 false ssetD (.var 0)) (.cons (.lst .nil) .nil))) (tgT [1, 2]))
    (.seq (.whileS (.bool (.op2 false false (cmD .ne) (.var 1) (.var 2))) (.seq (.asg (.var 1) (tgN 2))
    (.seq (.asg (.lc2 (.items (.var 1)) [4, 5, 6, 7] (tgT [4, 5]) (.items (.var 1)) [6, 7] (tgT [6, 7]) (.bool (.op2 false false (cmD .eq) (.var 6) (.var 5))) (.tup (.cons (.var 4) (.cons (.var 7) .nil)))) (tgN 3))
    (.asg (.call1 false ssetD (.op2 false false (op2 .add) (.var 1) (.var 3))) (tgN 1)))))
    (.ret (.call1 false tupleD (.var 1)))))

def m_mended_of (c_closed : C2) (c_is_good : C2) : MS :=
  (.seq (.asg (.tup (.cons (.var 0) (.cons (.call 1 c_closed (.cons (.var 1) .nil)) .nil))) (tgN 2))
    (.ret (.ite (.bool (.call 1 c_is_good (.cons (.var 2) .nil))) (.var 2) (.val .none))))

def m_does_keep : MS :=
  (.ret (.call1 false allD (.lc (.items (.op2 false false ixD (.var 0) (.val (.int 1)))) [2, 3] (tgT [2, 3]) (.val true) (.op2 false false (cmD .lt) (.meth "seq" false indexD (.var 1) (.var 2)) (.meth "seq" false indexD (.var 1) (.var 3))))))

def m_is_order (c_is_good : C2) : MS :=
  (.ret (.call 1 c_is_good (.cons (.var 0) .nil)))

def m_equals (c_need_order : C2) (c_equals_of : C2) : MS :=
  (.seq (.expr (.call 1 c_need_order (.cons (.var 0) .nil)))
    (.ret (.call 1 c_equals_of (.cons (.var 0) .nil))))

def m_mended (c_need_number : C2) (c_is_pair : C2) (c_mended_of : C2) : MS :=
  (.seq (.expr (.call 3 c_need_number (.cons (.var 0) (.cons (.val (.int 1)) (.cons (.val (.int 6)) .nil)))))
    (.seq (.ifS (.orB (.notB (.bool (.call1 false (isiD "tuple") (.var 1)))) (.orB (.bool (.op2 false false (cmD .gt) (.call1 false lenD (.var 1)) (.val (.int 30)))) (.notB (.bool (.call1 false allD (.lc (.items (.var 1)) [2] (tgN 2) (.val true) (.call 2 c_is_pair (.cons (.var 0) (.cons (.var 2) .nil))))))))) (.raise "InvalidPairs") .skip)
    (.ret (.call 2 c_mended_of (.cons (.var 0) (.cons (.var 1) .nil))))))

def m_keeps (c_need_order : C2) (c_need_row : C2) (c_does_keep : C2) : MS :=
  (.seq (.expr (.call 1 c_need_order (.cons (.var 0) .nil)))
    (.seq (.expr (.call 2 c_need_row (.cons (.var 0) (.cons (.var 1) .nil))))
    (.ret (.call 2 c_does_keep (.cons (.var 0) (.cons (.var 1) .nil))))))

def m__law_vat (F : Fx) : MS :=
  (.seq (.asg (.op2 false false (op2 .add) (.op2 false false (op2 .mul) (.val (.int 7919)) (.var 1)) (.val (.int 43))) (tgN 2))
    (.seq (.ifS (.bool (.op2 false false (cmD .lt) (.var 1) (.lenS F 0))) (.asg (.call1 false absD (.call1 false intD (.ixS F 0 (.var 1)))) (tgN 2)) .skip)
    (.ret (.bind (.cons (.ite (.bool (.op2 false false (cmD .ge) (.var 2) (.op2 false false (op2 .pow) (.val (.int 10)) (.val (.int 18))))) (.var 2) (.val (.int 0))) (.cons (.op2 false false (op2 .add) (.op2 false false (op2 .mod) (.call1 false intD (.op2 false false (op2 .add) (.op2 false false (op2 .add) (.op2 false false (op2 .mul) (.var 2) (.val (.int 131071))) (.op2 false false (op2 .mul) (.val (.int 8191)) (.var 1))) (.val (.int 5)))) (.val (.int 2147483629))) (.val (.int 1))) .nil)) M.mkc))))

def m__law_under : MS :=
  (.seq (.ifS (.bool (.op2 false false (cmD .gt) (.op2 true false ixD (.var 0) (.val (.int 0))) (.val (.int 0)))) (.seq (.asg (.op2 false false (op2 .mod) (.call1 false intD (.op2 true false ixD (.var 0) (.val (.int 0)))) (.var 1)) (tgN 3))
    (.seq (.setIx (.op2 false false (op2 .fdiv) (.op2 true false ixD (.var 0) (.val (.int 0))) (.var 1)) (.var 0) (.val (.int 0)))
    (.ret (.var 3)))) .skip)
    (.seq (.setIx (.op2 false false (op2 .mod) (.call1 false intD (.op2 false false (op2 .add) (.op2 false false (op2 .mul) (.op2 true false ixD (.var 0) (.val (.int 1))) (.val (.int 39373))) (.val (.int 101)))) (.val (.int 2147483629))) (.var 0) (.val (.int 1)))
    (.seq (.asg (.op2 false false (op2 .mod) (.call1 false intD (.op2 false false (op2 .mul) (.op2 true false ixD (.var 0) (.val (.int 1))) (.op2 false false (op2 .add) (.op2 false false (op2 .fdiv) (.op2 true false ixD (.var 0) (.val (.int 1))) (.val (.int 5))) (.val (.int 9))))) (.val (.int 2147483587))) (tgN 2))
    (.ret (.op2 false false (op2 .mod) (.call1 false intD (.op2 false false (op2 .fdiv) (.var 2) (.val (.int 32)))) (.var 1))))))

def m__law_is_whole : MS :=
  (.ret (.andV (.call1 false (isiD "int") (.var 0)) (.andV (.notV (.call1 false (isiD "bool") (.var 0))) (.chain (cmD .le) (cmD .le) (.var 1) (.var 0) (.var 2)))))

def m__law_truly : MS :=
  (.ret (.andV (.call1 false (isiD "bool") (.var 0)) (.op2 false false (cmD .eq) (.var 0) (.var 1))))

def m__law_is_pair (c__law_is_whole : C2) : MS :=
  (.seq (.ifS (.orB (.notB (.bool (.call1 false (isiD "tuple") (.var 1)))) (.bool (.op2 false false (cmD .ne) (.call1 false lenD (.var 1)) (.val (.int 2))))) (.ret (.val (.bool false))) .skip)
    (.seq (.ifS (.bool (.op2 false false (cmD .ne) (.lc (.items (.var 1)) [2] (tgN 2) (.notB (.bool (.call 3 c__law_is_whole (.cons (.var 2) (.cons (.val (.int 0)) (.cons (.op2 false false (op2 .sub) (.var 0) (.val (.int 1))) .nil)))))) (.var 2)) (.lst .nil))) (.ret (.val (.bool false))) .skip)
    (.ret (.op2 false false (cmD .ne) (.op2 false false ixD (.var 1) (.val (.int 0))) (.op2 false false ixD (.var 1) (.val (.int 1)))))))

def m__law_is_order (c__law_is_whole : C2) (c__law_is_pair : C2) (c__law_closed : C2) : MS :=
  (.seq (.ifS (.orB (.notB (.bool (.call1 false (isiD "tuple") (.var 0)))) (.orB (.bool (.op2 false false (cmD .ne) (.call1 false lenD (.var 0)) (.val (.int 2)))) (.notB (.bool (.call 3 c__law_is_whole (.cons (.op2 false false ixD (.var 0) (.val (.int 0))) (.cons (.val (.int 1)) (.cons (.val (.int 6)) .nil)))))))) (.ret (.val (.bool false))) .skip)
    (.seq (.ifS (.orB (.notB (.bool (.call1 false (isiD "tuple") (.op2 false false ixD (.var 0) (.val (.int 1)))))) (.bool (.op2 false false (cmD .ne) (.lc (.items (.op2 false false ixD (.var 0) (.val (.int 1)))) [1] (tgN 1) (.notB (.bool (.call 2 c__law_is_pair (.cons (.op2 false false ixD (.var 0) (.val (.int 0))) (.cons (.var 1) .nil))))) (.var 1)) (.lst .nil)))) (.ret (.val (.bool false))) .skip)
    (.seq (.ifS (.bool (.op2 false false (cmD .ne) (.call1 false listD (.op2 false false ixD (.var 0) (.val (.int 1)))) (.call1 false ssetD (.op2 false false ixD (.var 0) (.val (.int 1)))))) (.ret (.val (.bool false))) .skip)
    (.ret (.op2 false false (cmD .eq) (.call 1 c__law_closed (.cons (.op2 false false ixD (.var 0) (.val (.int 1))) .nil)) (.op2 false false ixD (.var 0) (.val (.int 1))))))))

def m__law_closed : MS :=
  (.seq (.asg (.call1 false ssetD (.var 0)) (tgN 1))
    (.seq (.asg (.val .none) (tgN 2))
    (.seq (.whileS (.bool (.op2 false false (cmD .ne) (.var 1) (.var 2))) (.seq (.asg (.var 1) (tgN 2))
    (.seq (.forS (.items (.var 2)) (tgT [3, 4]) (.asg (.op2 false false (op2 .add) (.var 1) (.lc (.items (.var 2)) [5, 6] (tgT [5, 6]) (.bool (.op2 false false (cmD .eq) (.var 5) (.var 4))) (.tup (.cons (.var 3) (.cons (.var 6) .nil))))) (tgN 1)))
    (.asg (.call1 false ssetD (.var 1)) (tgN 1)))))
    (.ret (.call1 false tupleD (.var 1))))))

def m__law_equals : MS :=
  (.seq (.asg (.lst .nil) (tgN 1))
    (.seq (.forS (.rng1 (.cons (.op2 false false ixD (.var 0) (.val (.int 0))) .nil)) (tgN 2) (.asg (.op2 false false (op2 .add) (.var 1) (.lc (.rng2 (.cons (.op2 false false (op2 .add) (.var 2) (.val (.int 1))) (.cons (.op2 false false ixD (.var 0) (.val (.int 0))) .nil))) [4] (tgN 4) (.val true) (.tup (.cons (.var 2) (.cons (.var 4) .nil))))) (tgN 1)))
    (.ret (.lc (.items (.var 1)) [3] (tgN 3) (.andB (.bool (.op2 false false (cmD .notin) (.var 3) (.op2 false false ixD (.var 0) (.val (.int 1))))) (.bool (.op2 false false (cmD .notin) (.tup (.cons (.op2 false false ixD (.var 3) (.val (.int 1))) (.cons (.op2 false false ixD (.var 3) (.val (.int 0))) .nil))) (.op2 false false ixD (.var 0) (.val (.int 1)))))) (.var 3)))))

def m__law_keeps : MS :=
  (.ret (.op2 false false (cmD .eq) (.lc (.items (.op2 false false ixD (.var 0) (.val (.int 1)))) [2, 3] (tgT [2, 3]) (.bool (.op2 false false (cmD .gt) (.meth "seq" false indexD (.var 1) (.var 2)) (.meth "seq" false indexD (.var 1) (.var 3)))) (.val (.int 1))) (.lst .nil)))

def m__law_row (c__law_under : C2) : MS :=
  (.seq (.par (.cons (.bind (.rg1 (.var 1)) M.mkc) (.cons (.tup .nil) .nil)) 2 3)
    (.seq (.whileS (.bool (.op2 true false (cmD .ne) (.var 2) (.lst .nil))) (.asg (.op2 false false (op2 .add) (.var 3) (.tup (.cons (.popAt (.var 2) (.call 2 c__law_under (.cons (.var 0) (.cons (.call1 true lenD (.var 2)) .nil)))) .nil))) (tgN 3)))
    (.ret (.var 3))))

def m__law_order (c__law_under : C2) (c__law_row : C2) (c__law_closed : C2) : MS :=
  (.seq (.par (.cons (.op2 false false (op2 .add) (.val (.int 1)) (.call 2 c__law_under (.cons (.var 0) (.cons (.var 1) .nil)))) (.cons (.call 2 c__law_under (.cons (.var 0) (.cons (.val (.int 3)) .nil))) .nil)) 4 5)
    (.seq (.par (.cons (.call 2 c__law_row (.cons (.var 0) (.cons (.var 4) .nil))) (.cons (.bind .nil M.mkc) .nil)) 6 7)
    (.seq (.asg (.lc (.rng1 (.cons (.var 4) .nil)) [10] (tgN 10) (.val true) (.tup (.cons (.call 2 c__law_under (.cons (.var 0) (.cons (.val (.int 6)) .nil))) (.cons (.op2 false false (op2 .add) (.val (.int 1)) (.call 2 c__law_under (.cons (.var 0) (.cons (.val (.int 4)) .nil)))) .nil)))) (tgN 2))
    (.seq (.forS (.rng1 (.cons (.var 4) .nil)) (tgN 3) (.forS (.rng2 (.cons (.op2 false false (op2 .add) (.var 3) (.val (.int 1))) (.cons (.var 4) .nil))) (tgN 8) (.ifS (.andB (.bool (.op2 false false (cmD .lt) (.var 5) (.val (.int 2)))) (.bool (.op2 false false (cmD .eq) (.call 2 c__law_under (.cons (.var 0) (.cons (.op2 false false (op2 .add) (.val (.int 2)) (.var 5)) .nil))) (.val (.int 0))))) (.expr (.append (.var 7) (.tup (.cons (.op2 false false ixD (.var 6) (.var 3)) (.cons (.op2 false false ixD (.var 6) (.var 8)) .nil))))) .skip)))
    (.seq (.freeze 7) (.seq (.ifS (.bool (.op2 false false (cmD .eq) (.var 5) (.val (.int 2)))) (.forS (.rng1 (.cons (.var 4) .nil)) (tgN 9) (.asg (.op2 false false (op2 .add) (.var 7) (.lc (.rng1 (.cons (.var 4) .nil)) [11] (tgN 11) (.bool (.op2 false false (cmD .le) (.op2 false false (op2 .add) (.op2 false false ixD (.op2 false false ixD (.var 2) (.var 9)) (.val (.int 0))) (.op2 false false ixD (.op2 false false ixD (.var 2) (.var 9)) (.val (.int 1)))) (.op2 false false ixD (.op2 false false ixD (.var 2) (.var 11)) (.val (.int 0))))) (.tup (.cons (.var 9) (.cons (.var 11) .nil))))) (tgN 7))) .skip)
    (.ret (.tup (.cons (.var 4) (.cons (.call 1 c__law_closed (.cons (.call1 false tupleD (.var 7)) .nil)) .nil))))))))))

def m__law_names (a : Addr) (bits : List Bool) : MS :=
  (.seq (.asg (.lst (.cons (isE 0 a (bits.getD 0 false)) (.cons (isE 0 a (bits.getD 1 false)) (.cons (isE 0 a (bits.getD 2 false)) (.cons (isE 0 a (bits.getD 3 false)) (.cons (isE 0 a (bits.getD 4 false)) (.cons (isE 0 a (bits.getD 5 false)) (.cons (isE 0 a (bits.getD 6 false)) (.cons (isE 0 a (bits.getD 7 false)) (.cons (isE 0 a (bits.getD 8 false)) (.cons (isE 0 a (bits.getD 9 false)) (.cons (isE 0 a (bits.getD 10 false)) (.cons (isE 0 a (bits.getD 11 false)) (.cons (isE 0 a (bits.getD 12 false)) (.cons (isE 0 a (bits.getD 13 false)) (.cons (isE 0 a (bits.getD 14 false)) .nil)))))))))))))))) (tgN 1))
    (.seq (.asg (.val (.str "order row lot thing number pair pairs facts place text contrary unlike undo many value")) (tgN 2))
    (.ret (.meth "str" false joinD (.val (.str " ")) (.lc (.zipH (.cons (.meth "str" false splitD (.var 2) (.val (.str " "))) (.cons (.var 1) .nil))) [3, 4] (tgT [3, 4]) (.bool (.var 4)) (.var 3))))))

def m__law_error (G : EN.D → C2 → Prop) (nmS : Str → Option Str) : MS :=
  (.seq (.tryN 1 (.expr (.callv0 0 G)) nmS .str) (.ret (.val (.str ""))))

def m__law_all_refused (cG__law_error : C2 → Addr → C2) (G_call : EN.D → C2 → Prop) : MS :=
  (.ret (.op2 false false (cmD .eq) (.lc (.items (.var 1)) [3] (tgN 3) (.bool (.op2 false false (cmD .ne) (.lam 0 2 [0, 3] (.callv 0 1 G_call (.cons (.var 1) .nil)) cG__law_error .nil) (.var 2))) (.var 3)) (.lst .nil)))

def m__law_known : MS :=
  (.seq (.asg (.bind (.cons (.tup (.cons (.val (.int 3)) (.cons (.tup .nil) .nil))) (.cons (.tup (.cons (.val (.int 3)) (.cons (.tup (.cons (.tup (.cons (.val (.int 0)) (.cons (.val (.int 1)) .nil))) (.cons (.tup (.cons (.val (.int 0)) (.cons (.val (.int 2)) .nil))) (.cons (.tup (.cons (.val (.int 1)) (.cons (.val (.int 2)) .nil))) .nil)))) .nil))) (.cons (.tup (.cons (.val (.int 3)) (.cons (.tup (.cons (.tup (.cons (.val (.int 0)) (.cons (.val (.int 1)) .nil))) (.cons (.tup (.cons (.val (.int 0)) (.cons (.val (.int 2)) .nil))) .nil))) .nil))) (.cons (.tup (.cons (.val (.int 4)) (.cons (.tup (.cons (.tup (.cons (.val (.int 0)) (.cons (.val (.int 2)) .nil))) (.cons (.tup (.cons (.val (.int 1)) (.cons (.val (.int 2)) .nil))) (.cons (.tup (.cons (.val (.int 1)) (.cons (.val (.int 3)) .nil))) .nil)))) .nil))) .nil)))) M.mkc) (tgN 0))
    (.seq (.expr (.append (.var 0) (.tup (.cons (.val (.int 6)) (.cons (.tup (.cons (.tup (.cons (.val (.int 0)) (.cons (.val (.int 3)) .nil))) (.cons (.tup (.cons (.val (.int 0)) (.cons (.val (.int 4)) .nil))) (.cons (.tup (.cons (.val (.int 0)) (.cons (.val (.int 5)) .nil))) (.cons (.tup (.cons (.val (.int 1)) (.cons (.val (.int 4)) .nil))) (.cons (.tup (.cons (.val (.int 1)) (.cons (.val (.int 5)) .nil))) (.cons (.tup (.cons (.val (.int 2)) (.cons (.val (.int 5)) .nil))) .nil))))))) .nil)))))
    (.seq (.freeze 0) (.ret (.op2 false false (op2 .add) (.var 0) (.lst (.cons (.tup (.cons (.val (.int 5)) (.cons (.tup (.cons (.tup (.cons (.val (.int 0)) (.cons (.val (.int 1)) .nil))) (.cons (.tup (.cons (.val (.int 0)) (.cons (.val (.int 2)) .nil))) (.cons (.tup (.cons (.val (.int 1)) (.cons (.val (.int 2)) .nil))) (.cons (.tup (.cons (.val (.int 3)) (.cons (.val (.int 4)) .nil))) .nil))))) .nil))) .nil)))))))

def m__law_bad_orders : MS :=
  (.seq (.asg (.lst (.cons (.val .none) (.cons (.tup .nil) (.cons (.tup (.cons (.val (.int 0)) (.cons (.tup .nil) .nil))) (.cons (.tup (.cons (.val (.int 7)) (.cons (.tup .nil) .nil))) (.cons (.tup (.cons (.val (.bool true)) (.cons (.tup .nil) .nil))) (.cons (.tup (.cons (.val (.int 2)) (.cons (.lst .nil) .nil))) (.cons (.lst (.cons (.val (.int 2)) (.cons (.tup .nil) .nil))) (.cons (.tup (.cons (.val (.int 2)) (.cons (.tup (.cons (.tup (.cons (.val (.int 0)) (.cons (.val (.int 0)) .nil))) .nil)) .nil))) (.cons (.tup (.cons (.val (.int 2)) (.cons (.tup (.cons (.tup (.cons (.val (.int 0)) (.cons (.val (.int 2)) .nil))) .nil)) .nil))) (.cons (.tup (.cons (.val (.int 2)) (.cons (.tup (.cons (.tup (.cons (.val (.int 0)) (.cons (.val (.int 1)) .nil))) (.cons (.tup (.cons (.val (.int 1)) (.cons (.val (.int 0)) .nil))) .nil))) .nil))) .nil))))))))))) (tgN 0))
    (.seq (.asg (.op2 false false (op2 .add) (.var 0) (.lst (.cons (.tup (.cons (.val (.int 3)) (.cons (.tup (.cons (.tup (.cons (.val (.int 0)) (.cons (.val (.int 1)) .nil))) (.cons (.tup (.cons (.val (.int 1)) (.cons (.val (.int 2)) .nil))) .nil))) .nil))) (.cons (.tup (.cons (.val (.int 2)) (.cons (.tup (.cons (.tup (.cons (.val (.int 0)) (.cons (.val (.int 1)) .nil))) (.cons (.tup (.cons (.val (.int 0)) (.cons (.val (.int 1)) .nil))) .nil))) .nil))) (.cons (.tup (.cons (.val (.int 3)) (.cons (.tup (.cons (.tup (.cons (.val (.int 0)) (.cons (.val (.int 2)) .nil))) (.cons (.tup (.cons (.val (.int 0)) (.cons (.val (.int 1)) .nil))) .nil))) .nil))) (.cons (.tup (.cons (.val (.int 2)) (.cons (.tup (.cons (.tup (.cons (.val (.int 0)) (.cons (.val (.bool true)) .nil))) .nil)) .nil))) (.cons (.tup (.cons (.val (.int 2)) (.cons (.tup (.cons (.tup (.cons (.val (.int 0)) .nil)) .nil)) .nil))) (.cons (.val (.str "2")) (.cons (.val (.int 2)) .nil))))))))) (tgN 0))
    (.ret (.op2 false false (op2 .add) (.var 0) (.lst (.cons (.tup (.cons (.val (.int 2)) (.cons (.tup .nil) (.cons (.tup .nil) .nil)))) (.cons (.tup (.cons (.val (.str "2")) (.cons (.tup .nil) .nil))) (.cons (.tup (.cons (.val (.int 2)) (.cons (.tup (.cons (.lst (.cons (.val (.int 0)) (.cons (.val (.int 1)) .nil))) .nil)) .nil))) (.cons (.tup (.cons (.val (.int 2)) (.cons (.tup (.cons (.tup (.cons (.val (.int 0)) (.cons (.val (.str "1")) .nil))) .nil)) .nil))) (.cons (.tup (.cons (.val (.int 2)) (.cons (.val .none) .nil))) (.cons (.tup (.cons (.val (.int 2)) (.cons (.tup (.cons (.tup (.cons (.val (.int (-1))) (.cons (.val (.int 0)) .nil))) .nil)) .nil))) .nil)))))))))))

def m__law_bad_rows : MS :=
  (.ret (.lst (.cons (.val .none) (.cons (.tup .nil) (.cons (.lstV (.rg1 (.var 0))) (.cons (.op2 false false (op2 .mul) (.tup (.cons (.val (.int 0)) .nil)) (.op2 false false (op2 .add) (.var 0) (.val (.int 1)))) (.cons (.tupV (.rg2 (.val (.int 1)) (.op2 false false (op2 .add) (.var 0) (.val (.int 1))))) (.cons (.op2 false false (op2 .add) (.tupV (.rg1 (.var 0))) (.tup (.cons (.val (.int 0)) .nil))) (.cons (.op2 false false (op2 .mul) (.tup (.cons (.val (.bool true)) .nil)) (.var 0)) (.cons (.val (.str "0")) (.cons (.val (.int 0)) .nil)))))))))))

def m_distances (c_equals_of : C2) : MS :=
  (.ret (.lc (.items (.call 1 c_equals_of (.cons (.var 0) .nil))) [2, 3] (tgT [2, 3]) (.val true) (.call1 false absD (.op2 false false (op2 .sub) (.meth "seq" false indexD (.var 1) (.var 2)) (.meth "seq" false indexD (.var 1) (.var 3))))))

def m_spread_of (c_distances : C2) : MS :=
  (.ret (.call1 false maxD (.op2 false false (op2 .add) (.lst (.cons (.val (.int 0)) .nil)) (.call 2 c_distances (.cons (.var 0) (.cons (.var 1) .nil))))))

def m_keeping : MS :=
  (.seq (.asg (.var 0) (tgT [3, 4]))
    (.seq (.asg (.lst (.cons (.tup .nil) .nil)) (tgN 1))
    (.seq (.forS (.rng1 (.cons (.var 3) .nil)) (tgN 2) (.seq (.asg (.bind .nil M.mkc) (tgN 5))
    (.seq (.forS (.items (.var 1)) (tgN 6) (.forS (.rng1 (.cons (.var 3) .nil)) (tgN 7) (.ifS (.andB (.bool (.op2 false false (cmD .notin) (.var 7) (.var 6))) (.bool (.call1 false allD (.lc (.items (.var 4)) [8, 9] (tgT [8, 9]) (.bool (.op2 false false (cmD .eq) (.var 9) (.var 7))) (.op2 false false (cmD .inn) (.var 8) (.var 6)))))) (.expr (.append (.var 5) (.op2 false false (op2 .add) (.var 6) (.tup (.cons (.var 7) .nil))))) .skip)))
    (.asg (.var 5) (tgN 1)))))
    (.ret (.var 1)))))

def m_best_of (c_least_of : C2) (c_keeping : C2) (c_spread_of : C2) : MS :=
  (.seq (.asg (.call 1 c_least_of (.cons (.var 0) .nil)) (tgN 1))
    (.ret (.lc (.items (.call 1 c_keeping (.cons (.var 0) .nil))) [2] (tgN 2) (.bool (.op2 false false (cmD .eq) (.call 2 c_spread_of (.cons (.var 0) (.cons (.var 2) .nil))) (.var 1))) (.var 2))))

def m_spread (c_need_order : C2) (c_need_row : C2) (c_spread_of : C2) : MS :=
  (.seq (.expr (.call 1 c_need_order (.cons (.var 0) .nil)))
    (.seq (.expr (.call 2 c_need_row (.cons (.var 0) (.cons (.var 1) .nil))))
    (.ret (.call 2 c_spread_of (.cons (.var 0) (.cons (.var 1) .nil))))))

def m_sum_of (c_need_order : C2) (c_need_row : C2) (c_distances : C2) : MS :=
  (.seq (.expr (.call 1 c_need_order (.cons (.var 0) .nil)))
    (.seq (.expr (.call 2 c_need_row (.cons (.var 0) (.cons (.var 1) .nil))))
    (.ret (.call1 false sumD (.call 2 c_distances (.cons (.var 0) (.cons (.var 1) .nil)))))))

def m_least_spread (c_need_order : C2) (c_least_of : C2) : MS :=
  (.seq (.expr (.call 1 c_need_order (.cons (.var 0) .nil)))
    (.ret (.call 1 c_least_of (.cons (.var 0) .nil))))

def m_first_best (c_need_order : C2) (c_best_of : C2) : MS :=
  (.seq (.expr (.call 1 c_need_order (.cons (.var 0) .nil)))
    (.ret (.op2 false false ixD (.call 1 c_best_of (.cons (.var 0) .nil)) (.val (.int 0)))))

def m_best_rows (c_need_order : C2) (c_best_of : C2) : MS :=
  (.seq (.expr (.call 1 c_need_order (.cons (.var 0) .nil)))
    (.ret (.call 1 c_best_of (.cons (.var 0) .nil))))

def m_is_best (c_need_order : C2) (c_is_row : C2) (c_does_keep : C2) (c_spread_of : C2) (c_least_of : C2) : MS :=
  (.seq (.expr (.call 1 c_need_order (.cons (.var 0) .nil)))
    (.seq (.ifS (.orB (.notB (.bool (.call 2 c_is_row (.cons (.op2 false false ixD (.var 0) (.val (.int 0))) (.cons (.var 1) .nil))))) (.notB (.bool (.call 2 c_does_keep (.cons (.var 0) (.cons (.var 1) .nil)))))) (.ret (.val (.bool false))) .skip)
    (.ret (.op2 false false (cmD .eq) (.call 2 c_spread_of (.cons (.var 0) (.cons (.var 1) .nil))) (.call 1 c_least_of (.cons (.var 0) .nil))))))

def m_count_rows (c_need_order : C2) (c_keeping : C2) : MS :=
  (.seq (.expr (.call 1 c_need_order (.cons (.var 0) .nil)))
    (.ret (.call1 false lenD (.call 1 c_keeping (.cons (.var 0) .nil)))))

def m__law_some (c__law_under : C2) : MS :=
  (.ret (.op2 false false ixD (.var 1) (.call 2 c__law_under (.cons (.var 0) (.cons (.call1 false lenD (.var 1)) .nil)))))

def m__law_permutations : MS :=
  (.seq (.asg (.lst (.cons (.tup .nil) .nil)) (tgN 1))
    (.seq (.forS (.rng1 (.cons (.var 0) .nil)) (tgN 2) (.seq (.asg (.lst .nil) (tgN 3))
    (.seq (.forS (.items (.var 1)) (tgN 4) (.asg (.op2 false false (op2 .add) (.var 3) (.lc (.rng1 (.cons (.var 0) .nil)) [5] (tgN 5) (.bool (.op2 false false (cmD .notin) (.var 5) (.var 4))) (.op2 false false (op2 .add) (.var 4) (.tup (.cons (.var 5) .nil))))) (tgN 3)))
    (.asg (.var 3) (tgN 1)))))
    (.ret (.var 1))))

def m__law_keeping (c__law_permutations : C2) (c__law_keeps : C2) : MS :=
  (.ret (.lc (.items (.call 1 c__law_permutations (.cons (.op2 false false ixD (.var 0) (.val (.int 0))) .nil))) [1] (tgN 1) (.bool (.call 2 c__law_keeps (.cons (.var 0) (.cons (.var 1) .nil)))) (.var 1)))

def m__law_gaps (c__law_equals : C2) : MS :=
  (.ret (.lc (.items (.call 1 c__law_equals (.cons (.var 0) .nil))) [2, 3] (tgT [2, 3]) (.val true) (.call1 false absD (.op2 false false (op2 .sub) (.meth "seq" false indexD (.var 1) (.var 2)) (.meth "seq" false indexD (.var 1) (.var 3))))))

def m__law_spread (c__law_gaps : C2) : MS :=
  (.ret (.call1 false maxD (.op2 false false (op2 .add) (.lst (.cons (.val (.int 0)) .nil)) (.call 2 c__law_gaps (.cons (.var 0) (.cons (.var 1) .nil))))))

def m_is_lot (c_is_whole : C2) (c_is_rising : C2) : MS :=
  (.ret (.andV (.call1 false (isiD "tuple") (.var 1)) (.andV (.call1 false allD (.lc (.items (.var 1)) [2] (tgN 2) (.val true) (.call 3 c_is_whole (.cons (.var 2) (.cons (.val (.int 0)) (.cons (.op2 false false (op2 .sub) (.var 0) (.val (.int 1))) .nil)))))) (.call 1 c_is_rising (.cons (.var 1) .nil)))))

def m_need_thing (c_is_whole : C2) : MS :=
  (.ifS (.notB (.bool (.call 3 c_is_whole (.cons (.var 1) (.cons (.val (.int 0)) (.cons (.op2 false false (op2 .sub) (.var 0) (.val (.int 1))) .nil)))))) (.raise "InvalidThing") .skip)

def m_is_good_crowd (c_is_lot : C2) (c_ways_from : C2) : MS :=
  (.seq (.ifS (.orB (.notB (.bool (.call 2 c_is_lot (.cons (.op2 false false ixD (.var 0) (.val (.int 0))) (.cons (.var 1) .nil))))) (.bool (.op2 false false (cmD .lt) (.call1 false lenD (.var 1)) (.val (.int 2))))) (.ret (.val (.bool false))) .skip)
    (.ret (.call1 false allD (.lc (.items (.var 1)) [2] (tgN 2) (.val true) (.op2 false false (cmD .inn) (.var 2) (.call 2 c_ways_from (.cons (.var 0) (.cons (.op2 false false ixD (.var 1) (.val (.int 0))) .nil))))))))

def m_all_lots : MS :=
  (.seq (.asg (.lst (.cons (.tup .nil) .nil)) (tgN 1))
    (.seq (.forS (.rng1 (.cons (.var 0) .nil)) (tgN 2) (.asg (.op2 false false (op2 .add) (.var 1) (.lc (.items (.var 1)) [3] (tgN 3) (.val true) (.op2 false false (op2 .add) (.var 3) (.tup (.cons (.var 2) .nil))))) (tgN 1)))
    (.ret (.call1 false sortedD (.var 1)))))

def m_any_spread (c_need_order : C2) (c_any_least : C2) : MS :=
  (.seq (.expr (.call 1 c_need_order (.cons (.var 0) .nil)))
    (.ret (.call 1 c_any_least (.cons (.var 0) .nil))))

def m_is_crowd (c_need_order : C2) (c_is_good_crowd : C2) : MS :=
  (.seq (.expr (.call 1 c_need_order (.cons (.var 0) .nil)))
    (.ret (.call 2 c_is_good_crowd (.cons (.var 0) (.cons (.var 1) .nil)))))

def m_bar (c_need_order : C2) (c_is_good_crowd : C2) (c_bar_of : C2) : MS :=
  (.seq (.expr (.call 1 c_need_order (.cons (.var 0) .nil)))
    (.seq (.ifS (.notB (.bool (.call 2 c_is_good_crowd (.cons (.var 0) (.cons (.var 1) .nil))))) (.raise "InvalidLot") .skip)
    (.ret (.call 2 c_bar_of (.cons (.var 0) (.cons (.var 1) .nil))))))

def m_best_crowd (c_need_order : C2) (c_all_lots : C2) (c_is_good_crowd : C2) (c_bar_of : C2) : MS :=
  (.seq (.expr (.call 1 c_need_order (.cons (.var 0) .nil)))
    (.seq (.par (.cons (.val (.int 0)) (.cons (.val .none) .nil)) 2 3)
    (.seq (.forS (.items (.call 1 c_all_lots (.cons (.op2 false false ixD (.var 0) (.val (.int 0))) .nil))) (tgN 1) (.ifS (.andB (.bool (.call 2 c_is_good_crowd (.cons (.var 0) (.cons (.var 1) .nil)))) (.bool (.op2 false false (cmD .gt) (.call 2 c_bar_of (.cons (.var 0) (.cons (.var 1) .nil))) (.var 2)))) (.par (.cons (.call 2 c_bar_of (.cons (.var 0) (.cons (.var 1) .nil))) (.cons (.var 1) .nil)) 2 3) .skip))
    (.ret (.var 3)))))

def m__law_told (G : EN.D → C2 → Prop) (nmS : Str → Option Str) : MS :=
  (.tryN 1 (.ret (.tup (.cons (.callv0 0 G) (.cons (.val (.str "")) .nil)))) nmS (fun t => .tuple [.none, .str t]))

def m__law_bad_things : MS :=
  (.ret (.lst (.cons (.val (.int (-1))) (.cons (.var 0) (.cons (.val (.bool true)) (.cons (.val .none) (.cons (.val (.str "0")) (.cons (.tup (.cons (.val (.int 0)) .nil)) .nil))))))))

def m__law_bar : MS :=
  (.seq (.ifS (.orB (.bool (.op2 false false (cmD .lt) (.call1 false lenD (.var 1)) (.val (.int 2)))) (.bool (.op2 false false (cmD .ne) (.lc (.items (.var 1)) [4] (tgN 4) (.bool (.op2 false false (cmD .notin) (.tup (.cons (.op2 false false ixD (.var 1) (.val (.int 0))) (.cons (.var 4) .nil))) (.var 0))) (.val (.int 1))) (.lst .nil)))) (.ret (.val .none)) .skip)
    (.seq (.par (.cons (.call1 false maxD (.lc (.items (.var 1)) [4] (tgN 4) (.val true) (.call1 false maxD (.lc (.items (.var 1)) [5] (tgN 5) (.val true) (.op2 false false ixD (.var 0) (.tup (.cons (.var 4) (.cons (.var 5) .nil)))))))) (.cons (.val (.int 0)) .nil)) 2 3)
    (.seq (.whileS (.bool (.op2 false false (cmD .lt) (.op2 false false (op2 .mul) (.var 3) (.var 2)) (.op2 false false (op2 .sub) (.call1 false lenD (.var 1)) (.val (.int 1))))) (.asg (.op2 false false (op2 .add) (.var 3) (.val (.int 1))) (tgN 3)))
    (.ret (.var 3)))))

def m__law_lots : MS :=
  (.seq (.asg (.lst (.cons (.tup .nil) .nil)) (tgN 1))
    (.seq (.forS (.rng1 (.cons (.var 0) .nil)) (tgN 2) (.asg (.op2 false false (op2 .add) (.var 1) (.lc (.items (.var 1)) [3] (tgN 3) (.val true) (.op2 false false (op2 .add) (.var 3) (.tup (.cons (.var 2) .nil))))) (tgN 1)))
    (.ret (.call1 false sortedD (.var 1)))))

def m_need_unlike (c_need_thing : C2) : MS :=
  (.seq (.expr (.call 2 c_need_thing (.cons (.var 0) (.cons (.var 1) .nil))))
    (.seq (.expr (.call 2 c_need_thing (.cons (.var 0) (.cons (.var 2) .nil))))
    (.ifS (.bool (.op2 false false (cmD .eq) (.var 1) (.var 2))) (.raise "InvalidThing") .skip)))

def m_split (c_equals_of : C2) : MS :=
  (.ret (.call1 false lenD (.lc (.items (.call 1 c_equals_of (.cons (.var 0) .nil))) [3, 4] (tgT [3, 4]) (.bool (.op2 false false (cmD .ne) (.op2 false false (op2 .fdiv) (.meth "seq" false indexD (.var 1) (.var 3)) (.var 2)) (.op2 false false (op2 .fdiv) (.meth "seq" false indexD (.var 1) (.var 4)) (.var 2)))) (.val (.int 1)))))

def m_ahead (c_need_order : C2) (c_need_unlike : C2) (c_best_of : C2) : MS :=
  (.seq (.expr (.call 1 c_need_order (.cons (.var 0) .nil)))
    (.seq (.expr (.call 3 c_need_unlike (.cons (.op2 false false ixD (.var 0) (.val (.int 0))) (.cons (.var 1) (.cons (.var 2) .nil)))))
    (.seq (.asg (.call1 false ssetD (.lc (.items (.call 1 c_best_of (.cons (.var 0) .nil))) [4] (tgN 4) (.val true) (.op2 false false (cmD .lt) (.meth "seq" false indexD (.var 4) (.var 1)) (.meth "seq" false indexD (.var 4) (.var 2))))) (tgN 3))
    (.ret (.ite (.bool (.op2 false false (cmD .eq) (.call1 false lenD (.var 3)) (.val (.int 1)))) (.op2 false false ixD (.var 3) (.val (.int 0))) (.val .none))))))

def m__law_exchanges : MS :=
  (.seq (.asg (.val (.int 0)) (tgN 2))
    (.seq (.forS (.rng1 (.cons (.call1 false lenD (.var 0)) .nil)) (tgN 3) (.asg (.op2 false false (op2 .add) (.var 2) (.call1 false lenD (.lc (.items (.slice false (.var 0) (.somI (.op2 false false (op2 .add) (.var 3) (.val (.int 1)))) (.val none))) [4] (tgN 4) (.bool (.op2 false false (cmD .lt) (.meth "seq" false indexD (.var 1) (.var 4)) (.meth "seq" false indexD (.var 1) (.op2 false false ixD (.var 0) (.var 3))))) (.val (.int 1))))) (tgN 2)))
    (.ret (.var 2))))

def m_far_pairs (c_equals_of : C2) : MS :=
  (.seq (.asg (.bind .nil M.mkc) (tgN 3))
    (.seq (.forS (.items (.call 1 c_equals_of (.cons (.var 0) .nil))) (tgT [4, 5]) (.seq (.par (.cons (.meth "seq" false indexD (.var 1) (.var 4)) (.cons (.meth "seq" false indexD (.var 1) (.var 5)) .nil)) 6 7)
    (.ifS (.bool (.op2 false false (cmD .gt) (.call1 false absD (.op2 false false (op2 .sub) (.var 6) (.var 7))) (.var 2))) (.expr (.append (.var 3) (.ite (.bool (.op2 false false (cmD .lt) (.var 6) (.var 7))) (.tup (.cons (.var 4) (.cons (.var 5) .nil))) (.tup (.cons (.var 5) (.cons (.var 4) .nil)))))) .skip)))
    (.seq (.freeze 3) (.ret (.var 3)))))

def m_with_far (c_mended_of : C2) (c_far_pairs : C2) : MS :=
  (.ret (.call 2 c_mended_of (.cons (.op2 false false ixD (.var 0) (.val (.int 0))) (.cons (.op2 false false (op2 .add) (.op2 false false ixD (.var 0) (.val (.int 1))) (.call1 false tupleD (.call 3 c_far_pairs (.cons (.var 0) (.cons (.var 1) (.cons (.var 2) .nil)))))) .nil))))

def m_need_few : MS :=
  (.ifS (.bool (.op2 false false (cmD .gt) (.op2 false false ixD (.var 0) (.val (.int 0))) (.val (.int 5)))) (.raiseI "TooMany" (.val (.int 5))) .skip)

def m__law_within : MS :=
  (.ret (.op2 false false (cmD .eq) (.lc (.items (.op2 false false ixD (.var 0) (.val (.int 1)))) [2] (tgN 2) (.bool (.op2 false false (cmD .notin) (.var 2) (.op2 false false ixD (.var 1) (.val (.int 1))))) (.var 2)) (.lst .nil)))

def m__law_far (c__law_gaps : C2) : MS :=
  (.ret (.call1 false lenD (.lc (.items (.call 2 c__law_gaps (.cons (.var 0) (.cons (.var 1) .nil)))) [3] (tgN 3) (.bool (.op2 false false (cmD .gt) (.var 3) (.var 2))) (.var 3))))

def m_need_lot (c_is_lot : C2) : MS :=
  (.ifS (.notB (.bool (.call 2 c_is_lot (.cons (.op2 false false ixD (.var 0) (.val (.int 0))) (.cons (.var 1) .nil))))) (.raise "InvalidLot") .skip)

def m_turned_of : MS :=
  (.ret (.tup (.cons (.op2 false false ixD (.var 0) (.val (.int 0))) (.cons (.call1 false tupleD (.call1 false sortedD (.lc (.items (.op2 false false ixD (.var 0) (.val (.int 1)))) [1, 2] (tgT [1, 2]) (.val true) (.tup (.cons (.var 2) (.cons (.var 1) .nil)))))) .nil))))

def m_both : MS :=
  (.seq (.asg (.op2 false false ixD (.var 0) (.val (.int 0))) (tgN 3))
    (.seq (.ifS (.bool (.op2 false false (cmD .gt) (.op2 false false (op2 .add) (.var 3) (.op2 false false ixD (.var 1) (.val (.int 0)))) (.val (.int 6)))) (.raiseI "TooMany" (.val (.int 6))) .skip)
    (.seq (.asg (.op2 false false (op2 .add) (.call1 false listD (.op2 false false ixD (.var 0) (.val (.int 1)))) (.lc (.items (.op2 false false ixD (.var 1) (.val (.int 1)))) [5, 6] (tgT [5, 6]) (.val true) (.tup (.cons (.op2 false false (op2 .add) (.var 5) (.var 3)) (.cons (.op2 false false (op2 .add) (.var 6) (.var 3)) .nil))))) (tgN 4))
    (.seq (.ifS (.bool (.var 2)) (.asg (.op2 false false (op2 .add) (.var 4) (.lc2 (.rng1 (.cons (.var 3) .nil)) [5, 6] (tgN 5) (.rng1 (.cons (.op2 false false ixD (.var 1) (.val (.int 0))) .nil)) [6] (tgN 6) (.val true) (.tup (.cons (.var 5) (.cons (.op2 false false (op2 .add) (.var 6) (.var 3)) .nil))))) (tgN 4)) .skip)
    (.ret (.tup (.cons (.op2 false false (op2 .add) (.var 3) (.op2 false false ixD (.var 1) (.val (.int 0)))) (.cons (.call1 false tupleD (.call1 false sortedD (.var 4))) .nil))))))))

def m_part_of : MS :=
  (.seq (.asg (.lc (.items (.op2 false false ixD (.var 0) (.val (.int 1)))) [3, 4] (tgT [3, 4]) (.andB (.bool (.op2 false false (cmD .inn) (.var 3) (.var 1))) (.bool (.op2 false false (cmD .inn) (.var 4) (.var 1)))) (.tup (.cons (.meth "seq" false indexD (.var 1) (.var 3)) (.cons (.meth "seq" false indexD (.var 1) (.var 4)) .nil)))) (tgN 2))
    (.ret (.tup (.cons (.call1 false lenD (.var 1)) (.cons (.call1 false tupleD (.call1 false sortedD (.var 2))) .nil)))))

def m_turned (c_need_order : C2) (c_turned_of : C2) : MS :=
  (.seq (.expr (.call 1 c_need_order (.cons (.var 0) .nil)))
    (.ret (.call 1 c_turned_of (.cons (.var 0) .nil))))

def m_stacked (c_need_order : C2) (c_both : C2) : MS :=
  (.seq (.expr (.call 1 c_need_order (.cons (.var 0) .nil)))
    (.seq (.expr (.call 1 c_need_order (.cons (.var 1) .nil)))
    (.ret (.call 3 c_both (.cons (.var 0) (.cons (.var 1) (.cons (.val (.bool true)) .nil)))))))

def m_beside (c_need_order : C2) (c_both : C2) : MS :=
  (.seq (.expr (.call 1 c_need_order (.cons (.var 0) .nil)))
    (.seq (.expr (.call 1 c_need_order (.cons (.var 1) .nil)))
    (.ret (.call 3 c_both (.cons (.var 0) (.cons (.var 1) (.cons (.val (.bool false)) .nil)))))))

def m_part (c_need_order : C2) (c_need_lot : C2) (c_part_of : C2) : MS :=
  (.seq (.expr (.call 1 c_need_order (.cons (.var 0) .nil)))
    (.seq (.expr (.call 2 c_need_lot (.cons (.var 0) (.cons (.var 1) .nil))))
    (.seq (.ifS (.bool (.op2 false false (cmD .eq) (.var 1) (.tup .nil))) (.raise "InvalidLot") .skip)
    (.ret (.call 2 c_part_of (.cons (.var 0) (.cons (.var 1) .nil)))))))

def m__law_both : MS :=
  (.seq (.asg (.tup (.cons (.op2 false false ixD (.var 0) (.val (.int 0))) (.cons (.listC (.op2 false false ixD (.var 0) (.val (.int 1)))) .nil))) (tgT [4, 5]))
    (.seq (.forS (.items (.op2 false false ixD (.var 1) (.val (.int 1)))) (tgT [3, 6]) (.expr (.append (.var 5) (.tup (.cons (.op2 false false (op2 .add) (.var 3) (.var 4)) (.cons (.op2 false false (op2 .add) (.var 6) (.var 4)) .nil))))))
    (.seq (.freeze 5) (.seq (.forS (.rng1 (.cons (.var 4) .nil)) (tgN 3) (.asg (.op2 false false (op2 .add) (.var 5) (.lc (.rng1 (.cons (.op2 false false ixD (.var 1) (.val (.int 0))) .nil)) [6] (tgN 6) (.bool (.var 2)) (.tup (.cons (.var 3) (.cons (.op2 false false (op2 .add) (.var 6) (.var 4)) .nil))))) (tgN 5)))
    (.ret (.tup (.cons (.op2 false false (op2 .add) (.var 4) (.op2 false false ixD (.var 1) (.val (.int 0)))) (.cons (.call1 false tupleD (.call1 false sortedD (.var 5))) .nil))))))))

def m_all_orders (c_follows : C2) : MS :=
  (.seq (.asg (.lst (.cons (.tup .nil) .nil)) (tgN 1))
    (.seq (.forS (.rng1 (.cons (.var 0) .nil)) (tgN 2) (.forS (.rng2 (.cons (.op2 false false (op2 .add) (.var 2) (.val (.int 1))) (.cons (.var 0) .nil))) (tgN 3) (.seq (.asg (.lst .nil) (tgN 4))
    (.seq (.forS (.items (.var 1)) (tgN 5) (.asg (.op2 false false (op2 .add) (.var 4) (.lst (.cons (.var 5) (.cons (.op2 false false (op2 .add) (.var 5) (.tup (.cons (.tup (.cons (.var 2) (.cons (.var 3) .nil))) .nil))) (.cons (.op2 false false (op2 .add) (.var 5) (.tup (.cons (.tup (.cons (.var 3) (.cons (.var 2) .nil))) .nil))) .nil))))) (tgN 4)))
    (.asg (.var 4) (tgN 1))))))
    (.ret (.call1 false sortedD (.lc (.items (.var 1)) [5] (tgN 5) (.bool (.call 1 c_follows (.cons (.var 5) .nil))) (.tup (.cons (.var 0) (.cons (.call1 false tupleD (.call1 false sortedD (.var 5))) .nil))))))))

def m_is_fact (c_is_row : C2) : MS :=
  (.ret (.andV (.call1 false (isiD "tuple") (.var 1)) (.andV (.op2 false false (cmD .eq) (.call1 false lenD (.var 1)) (.val (.int 2))) (.andV (.call 2 c_is_row (.cons (.var 0) (.cons (.op2 false false ixD (.var 1) (.val (.int 0))) .nil))) (.call1 false (isiD "bool") (.op2 false false ixD (.var 1) (.val (.int 1))))))))

def m_need_facts (c_is_fact : C2) : MS :=
  (.ifS (.orB (.notB (.bool (.call1 false (isiD "tuple") (.var 1)))) (.orB (.bool (.op2 false false (cmD .gt) (.call1 false lenD (.var 1)) (.val (.int 5)))) (.notB (.bool (.call1 false allD (.lc (.items (.var 1)) [2] (tgN 2) (.val true) (.call 2 c_is_fact (.cons (.var 0) (.cons (.var 2) .nil))))))))) (.raise "InvalidFacts") .skip)

def m_fitting (c_all_orders : C2) (c_does_keep : C2) : MS :=
  (.ret (.lc (.items (.call 1 c_all_orders (.cons (.var 0) .nil))) [2] (tgN 2) (.bool (.call1 false allD (.lc (.items (.var 1)) [3, 4] (tgT [3, 4]) (.val true) (.op2 false false (cmD .eq) (.call 2 c_does_keep (.cons (.var 2) (.cons (.var 3) .nil))) (.var 4))))) (.var 2)))

def m_orders_told (c_need_number : C2) (c_need_facts : C2) (c_fitting : C2) : MS :=
  (.seq (.expr (.call 3 c_need_number (.cons (.var 0) (.cons (.val (.int 1)) (.cons (.val (.int 4)) .nil)))))
    (.seq (.expr (.call 2 c_need_facts (.cons (.var 0) (.cons (.var 1) .nil))))
    (.ret (.call 2 c_fitting (.cons (.var 0) (.cons (.var 1) .nil))))))

def m_surely (c_need_number : C2) (c_need_facts : C2) (c_need_unlike : C2) (c_fitting : C2) : MS :=
  (.seq (.expr (.call 3 c_need_number (.cons (.var 0) (.cons (.val (.int 1)) (.cons (.val (.int 4)) .nil)))))
    (.seq (.expr (.call 2 c_need_facts (.cons (.var 0) (.cons (.var 1) .nil))))
    (.seq (.expr (.call 3 c_need_unlike (.cons (.var 0) (.cons (.var 2) (.cons (.var 3) .nil)))))
    (.seq (.asg (.call1 false ssetD (.lc (.items (.call 2 c_fitting (.cons (.var 0) (.cons (.var 1) .nil)))) [5] (tgN 5) (.val true) (.op2 false false (cmD .inn) (.tup (.cons (.var 2) (.cons (.var 3) .nil))) (.op2 false false ixD (.var 5) (.val (.int 1)))))) (tgN 4))
    (.ret (.ite (.bool (.op2 false false (cmD .eq) (.call1 false lenD (.var 4)) (.val (.int 1)))) (.op2 false false ixD (.var 4) (.val (.int 0))) (.val .none)))))))

def m__law_facts (c__law_under : C2) (c__law_row : C2) (c__law_keeps : C2) : MS :=
  (.seq (.asg (.tup .nil) (tgN 2))
    (.seq (.forS (.rng1 (.cons (.call 2 c__law_under (.cons (.var 0) (.cons (.val (.int 5)) .nil))) .nil)) (tgN 3) (.seq (.asg (.call 2 c__law_row (.cons (.var 0) (.cons (.op2 false false ixD (.var 1) (.val (.int 0))) .nil))) (tgN 4))
    (.seq (.asg (.ite (.bool (.op2 false false (cmD .gt) (.call 2 c__law_under (.cons (.var 0) (.cons (.val (.int 8)) .nil))) (.val (.int 0)))) (.call 2 c__law_keeps (.cons (.var 1) (.cons (.var 4) .nil))) (.op2 false false (cmD .eq) (.call 2 c__law_under (.cons (.var 0) (.cons (.val (.int 2)) .nil))) (.val (.int 0)))) (tgN 5))
    (.asg (.op2 false false (op2 .add) (.var 2) (.tup (.cons (.tup (.cons (.var 4) (.cons (.var 5) .nil))) .nil))) (tgN 2)))))
    (.ret (.var 2))))

def m_pair_in : MS :=
  (.seq (.ifS (.orB (.bool (.op2 false false (cmD .ne) (.call1 false lenD (.var 0)) (.val (.int 3)))) (.orB (.bool (.op2 false false (cmD .notin) (.op2 false false ixD (.var 0) (.val (.int 0))) (.val (.str "012345")))) (.orB (.bool (.op2 false false (cmD .ne) (.op2 false false ixD (.var 0) (.val (.int 1))) (.val (.str "<")))) (.bool (.op2 false false (cmD .notin) (.op2 false false ixD (.var 0) (.val (.int 2))) (.val (.str "012345"))))))) (.ret (.val .none)) .skip)
    (.ret (.tup (.cons (.call1 false intD (.op2 false false ixD (.var 0) (.val (.int 0)))) (.cons (.call1 false intD (.op2 false false ixD (.var 0) (.val (.int 2)))) .nil)))))

def m_order_in (c_pair_in : C2) (c_is_good : C2) : MS :=
  (.seq (.ifS (.notB (.bool (.call1 false (isiD "str") (.var 0)))) (.ret (.val .none)) .skip)
    (.seq (.asg (.meth "str" false splitD (.var 0) (.val (.str " "))) (tgN 1))
    (.seq (.ifS (.orB (.bool (.op2 false false (cmD .ne) (.call1 false lenD (.op2 false false ixD (.var 1) (.val (.int 0)))) (.val (.int 1)))) (.bool (.op2 false false (cmD .notin) (.op2 false false ixD (.var 1) (.val (.int 0))) (.val (.str "123456"))))) (.ret (.val .none)) .skip)
    (.seq (.asg (.tup (.cons (.call1 false intD (.op2 false false ixD (.var 1) (.val (.int 0)))) (.cons (.call1 false tupleD (.lc (.items (.slice false (.var 1) (.somI (.val (.int 1))) (.val none))) [3] (tgN 3) (.val true) (.call 1 c_pair_in (.cons (.var 3) .nil)))) .nil))) (tgN 2))
    (.ret (.ite (.bool (.call 1 c_is_good (.cons (.var 2) .nil))) (.var 2) (.val .none)))))))

def m_order_text (c_need_order : C2) (c_text_of : C2) : MS :=
  (.seq (.expr (.call 1 c_need_order (.cons (.var 0) .nil)))
    (.ret (.call 1 c_text_of (.cons (.var 0) .nil))))

def m_read_order (c_order_in : C2) : MS :=
  (.seq (.asg (.call 1 c_order_in (.cons (.var 0) .nil)) (tgN 1))
    (.seq (.ifS (.bool (.op2 false false (cmD .is) (.var 1) (.val .none))) (.raise "InvalidText") .skip)
    (.ret (.var 1))))

def m__law_reading (c__law_is_order : C2) : MS :=
  (.seq (.asg (.meth "str" false splitD (.var 0) (.val (.str " "))) (tgN 1))
    (.seq (.ifS (.orB (.bool (.op2 false false (cmD .notin) (.op2 false false ixD (.var 1) (.val (.int 0))) (.call1 false listD (.val (.str "123456"))))) (.bool (.op2 false false (cmD .ne) (.lc (.items (.slice false (.var 1) (.somI (.val (.int 1))) (.val none))) [3] (tgN 3) (.orB (.bool (.op2 false false (cmD .ne) (.call1 false lenD (.var 3)) (.val (.int 3)))) (.bool (.op2 false false (cmD .ne) (.op2 false false ixD (.var 3) (.val (.int 1))) (.val (.str "<"))))) (.var 3)) (.lst .nil)))) (.ret (.val .none)) .skip)
    (.seq (.ifS (.bool (.op2 false false (cmD .ne) (.lc (.items (.slice false (.var 1) (.somI (.val (.int 1))) (.val none))) [3] (tgN 3) (.orB (.bool (.op2 false false (cmD .notin) (.op2 false false ixD (.var 3) (.val (.int 0))) (.val (.str "012345")))) (.bool (.op2 false false (cmD .notin) (.op2 false false ixD (.var 3) (.val (.int 2))) (.val (.str "012345"))))) (.var 3)) (.lst .nil))) (.ret (.val .none)) .skip)
    (.seq (.asg (.tup (.cons (.call1 false intD (.op2 false false ixD (.var 1) (.val (.int 0)))) (.cons (.call1 false tupleD (.lc (.items (.slice false (.var 1) (.somI (.val (.int 1))) (.val none))) [3] (tgN 3) (.val true) (.tup (.cons (.call1 false intD (.op2 false false ixD (.var 3) (.val (.int 0)))) (.cons (.call1 false intD (.op2 false false ixD (.var 3) (.val (.int 2)))) .nil))))) .nil))) (tgN 2))
    (.ret (.ite (.bool (.call 1 c__law_is_order (.cons (.var 2) .nil))) (.var 2) (.val .none)))))))

def m__wall : MS :=
  (.whileS (.bool (.val (.bool true))) .skip)

def m_is_contrary (c_closed : C2) : MS :=
  (.ret (.call1 false anyD (.lc (.items (.call 1 c_closed (.cons (.var 0) .nil))) [1, 2] (tgT [1, 2]) (.val true) (.op2 false false (cmD .eq) (.var 1) (.var 2)))))

def m__law_two_right (c_beside : C2) (c_stacked : C2) (c_least_spread : C2) (c_count_rows : C2) (c_turned : C2) (c_equals : C2) : MS :=
  (.seq (.ifS (.bool (.op2 false false (cmD .gt) (.op2 false false (op2 .add) (.op2 false false ixD (.var 0) (.val (.int 0))) (.op2 false false ixD (.var 1) (.val (.int 0)))) (.val (.int 6)))) (.ret (.val (.bool true))) .skip)
    (.seq (.par (.cons (.call 2 c_stacked (.cons (.var 0) (.cons (.var 1) .nil))) (.cons (.call 2 c_beside (.cons (.var 0) (.cons (.var 1) .nil))) .nil)) 2 3)
    (.seq (.ifS (.orB (.bool (.op2 false false (cmD .ne) (.call 1 c_least_spread (.cons (.var 2) .nil)) (.callN maxD2 (.cons (.call 1 c_least_spread (.cons (.var 0) .nil)) (.cons (.call 1 c_least_spread (.cons (.var 1) .nil)) .nil))))) (.bool (.op2 false false (cmD .ne) (.call 1 c_count_rows (.cons (.var 2) .nil)) (.op2 false false (op2 .mul) (.call 1 c_count_rows (.cons (.var 0) .nil)) (.call 1 c_count_rows (.cons (.var 1) .nil)))))) (.ret (.val (.bool false))) .skip)
    (.seq (.ifS (.orB (.bool (.op2 false false (cmD .lt) (.call 1 c_least_spread (.cons (.var 3) .nil)) (.callN maxD2 (.cons (.call 1 c_least_spread (.cons (.var 0) .nil)) (.cons (.call 1 c_least_spread (.cons (.var 1) .nil)) .nil))))) (.bool (.op2 false false (cmD .eq) (.call 1 c_turned (.cons (.var 2) .nil)) (.var 2)))) (.ret (.val (.bool false))) .skip)
    (.ret (.op2 false false (cmD .eq) (.call1 false lenD (.call 1 c_equals (.cons (.var 3) .nil))) (.op2 false false (op2 .add) (.op2 false false (op2 .add) (.call1 false lenD (.call 1 c_equals (.cons (.var 0) .nil))) (.call1 false lenD (.call 1 c_equals (.cons (.var 1) .nil)))) (.op2 false false (op2 .mul) (.op2 false false ixD (.var 0) (.val (.int 0))) (.op2 false false ixD (.var 1) (.val (.int 0)))))))))))

def m__law_called : MS :=
  (.ret (.tup (.cons (.op2 false false ixD (.var 0) (.val (.int 0))) (.cons (.call1 false tupleD (.call1 false sortedD (.lc (.items (.op2 false false ixD (.var 0) (.val (.int 1)))) [2, 3] (tgT [2, 3]) (.val true) (.tup (.cons (.op2 false false ixD (.var 1) (.var 2)) (.cons (.op2 false false ixD (.var 1) (.var 3)) .nil)))))) .nil))))

def m__law_renamed_right (c__law_called : C2) (c_count_rows : C2) (c_any_spread : C2) (c_least_spread : C2) (c_best_rows : C2) (c_equals : C2) (c__law_under : C2) (c__law_row : C2) (c_spread : C2) (c_sum_of : C2) (c_keeps : C2) (c_least_sum : C2) (c_nearest_best : C2) (c_fewest_split : C2) (c_way : C2) (c_ahead : C2) (c_is_crowd : C2) (c_bar : C2) (c_best_crowd : C2) : MS :=
  (.seq (.par (.cons (.op2 false false ixD (.var 1) (.val (.int 0))) (.cons (.call 2 c__law_called (.cons (.var 1) (.cons (.var 2) .nil))) .nil)) 7 8)
    (.seq (.ifS (.bool (.op2 false false (cmD .ne) (.lst (.cons (.call 1 c_least_spread (.cons (.var 8) .nil)) (.cons (.call 1 c_any_spread (.cons (.var 8) .nil)) (.cons (.call 1 c_count_rows (.cons (.var 8) .nil)) .nil)))) (.lst (.cons (.call 1 c_least_spread (.cons (.var 1) .nil)) (.cons (.call 1 c_any_spread (.cons (.var 1) .nil)) (.cons (.call 1 c_count_rows (.cons (.var 1) .nil)) .nil)))))) (.ret (.val (.bool false))) .skip)
    (.seq (.asg (.lc (.items (.call 1 c_best_rows (.cons (.var 1) .nil))) [9] (tgN 9) (.val true) (.call1 false tupleD (.lc (.items (.var 9)) [15] (tgN 15) (.val true) (.op2 false false ixD (.var 2) (.var 15))))) (tgN 3))
    (.seq (.ifS (.orB (.bool (.op2 false false (cmD .ne) (.call 1 c_best_rows (.cons (.var 8) .nil)) (.call1 false sortedD (.var 3)))) (.bool (.op2 false false (cmD .ne) (.call 1 c_equals (.cons (.var 8) .nil)) (.call1 false sortedD (.lc (.items (.call 1 c_equals (.cons (.var 1) .nil))) [16, 6] (tgT [16, 6]) (.val true) (.call1 false tupleD (.call1 false sortedD (.lst (.cons (.op2 false false ixD (.var 2) (.var 16)) (.cons (.op2 false false ixD (.var 2) (.var 6)) .nil)))))))))) (.ret (.val (.bool false))) .skip)
    (.seq (.par (.cons (.call 2 c__law_row (.cons (.var 0) (.cons (.var 7) .nil))) (.cons (.op2 false false (op2 .add) (.val (.int 1)) (.call 2 c__law_under (.cons (.var 0) (.cons (.val (.int 6)) .nil)))) .nil)) 9 10)
    (.seq (.asg (.call1 false tupleD (.lc (.items (.var 9)) [15] (tgN 15) (.val true) (.op2 false false ixD (.var 2) (.var 15)))) (tgN 4))
    (.seq (.ifS (.orB (.bool (.op2 false false (cmD .ne) (.call 2 c_spread (.cons (.var 8) (.cons (.var 4) .nil))) (.call 2 c_spread (.cons (.var 1) (.cons (.var 9) .nil))))) (.orB (.bool (.op2 false false (cmD .ne) (.call 2 c_sum_of (.cons (.var 8) (.cons (.var 4) .nil))) (.call 2 c_sum_of (.cons (.var 1) (.cons (.var 9) .nil))))) (.bool (.op2 false false (cmD .ne) (.call 2 c_keeps (.cons (.var 8) (.cons (.var 4) .nil))) (.call 2 c_keeps (.cons (.var 1) (.cons (.var 9) .nil))))))) (.ret (.val (.bool false))) .skip)
    (.seq (.ifS (.orB (.bool (.op2 false false (cmD .ne) (.op2 false false ixD (.call 1 c_least_sum (.cons (.var 8) .nil)) (.val (.int 0))) (.op2 false false ixD (.call 1 c_least_sum (.cons (.var 1) .nil)) (.val (.int 0))))) (.bool (.op2 false false (cmD .ne) (.op2 false false ixD (.call 2 c_nearest_best (.cons (.var 8) (.cons (.var 4) .nil))) (.val (.int 0))) (.op2 false false ixD (.call 2 c_nearest_best (.cons (.var 1) (.cons (.var 9) .nil))) (.val (.int 0)))))) (.ret (.val (.bool false))) .skip)
    (.seq (.ifS (.bool (.op2 false false (cmD .ne) (.op2 false false ixD (.call 2 c_fewest_split (.cons (.var 8) (.cons (.var 10) .nil))) (.val (.int 0))) (.op2 false false ixD (.call 2 c_fewest_split (.cons (.var 1) (.cons (.var 10) .nil))) (.val (.int 0))))) (.ret (.val (.bool false))) .skip)
    (.seq (.par (.cons (.call 2 c__law_under (.cons (.var 0) (.cons (.var 7) .nil))) (.cons (.call 2 c__law_under (.cons (.var 0) (.cons (.var 7) .nil))) .nil)) 11 12)
    (.seq (.ifS (.bool (.op2 false false (cmD .ne) (.call 3 c_way (.cons (.var 8) (.cons (.op2 false false ixD (.var 2) (.var 11)) (.cons (.op2 false false ixD (.var 2) (.var 12)) .nil)))) (.call 3 c_way (.cons (.var 1) (.cons (.var 11) (.cons (.var 12) .nil)))))) (.ret (.val (.bool false))) .skip)
    (.seq (.ifS (.andB (.bool (.op2 false false (cmD .ne) (.var 11) (.var 12))) (.bool (.op2 false false (cmD .ne) (.call 3 c_ahead (.cons (.var 8) (.cons (.op2 false false ixD (.var 2) (.var 11)) (.cons (.op2 false false ixD (.var 2) (.var 12)) .nil)))) (.call 3 c_ahead (.cons (.var 1) (.cons (.var 11) (.cons (.var 12) .nil))))))) (.ret (.val (.bool false))) .skip)
    (.seq (.asg (.call1 false tupleD (.lc (.rng1 (.cons (.var 7) .nil)) [15] (tgN 15) (.bool (.op2 false false (cmD .eq) (.call 2 c__law_under (.cons (.var 0) (.cons (.val (.int 2)) .nil))) (.val (.int 0)))) (.var 15))) (tgN 5))
    (.seq (.asg (.call1 false tupleD (.call1 false sortedD (.lc (.items (.var 5)) [15] (tgN 15) (.val true) (.op2 false false ixD (.var 2) (.var 15))))) (tgN 6))
    (.seq (.ifS (.orB (.bool (.op2 false false (cmD .ne) (.call 2 c_is_crowd (.cons (.var 8) (.cons (.var 6) .nil))) (.call 2 c_is_crowd (.cons (.var 1) (.cons (.var 5) .nil))))) (.andB (.bool (.call 2 c_is_crowd (.cons (.var 1) (.cons (.var 5) .nil)))) (.bool (.op2 false false (cmD .ne) (.call 2 c_bar (.cons (.var 8) (.cons (.var 6) .nil))) (.call 2 c_bar (.cons (.var 1) (.cons (.var 5) .nil))))))) (.ret (.val (.bool false))) .skip)
    (.seq (.par (.cons (.call 1 c_best_crowd (.cons (.var 1) .nil)) (.cons (.call 1 c_best_crowd (.cons (.var 8) .nil)) .nil)) 13 14)
    (.seq (.ifS (.orB (.bool (.op2 false false (cmD .ne) (.op2 false false (cmD .is) (.var 13) (.val .none)) (.op2 false false (cmD .is) (.var 14) (.val .none)))) (.andB (.bool (.op2 false false (cmD .isnot) (.var 13) (.val .none))) (.bool (.op2 false false (cmD .ne) (.call 2 c_bar (.cons (.var 1) (.cons (.var 13) .nil))) (.call 2 c_bar (.cons (.var 8) (.cons (.var 14) .nil))))))) (.ret (.val (.bool false))) .skip)
    (.ret (.orV (.op2 false false (cmD .is) (.var 13) (.val .none)) (.op2 false false (cmD .le) (.call 2 c_bar (.cons (.var 1) (.cons (.var 13) .nil))) (.call 1 c_least_spread (.cons (.var 1) .nil))))))))))))))))))))))

def m__law_joined_right (c_beside : C2) (c_stacked : C2) (c_least_spread : C2) (c_count_rows : C2) (c_equals : C2) (c_turned : C2) (c__law_called : C2) (c_part : C2) : MS :=
  (.seq (.ifS (.bool (.op2 false false (cmD .gt) (.op2 false false (op2 .add) (.op2 false false ixD (.var 0) (.val (.int 0))) (.op2 false false ixD (.var 1) (.val (.int 0)))) (.val (.int 6)))) (.ret (.val (.bool true))) .skip)
    (.seq (.par (.cons (.call 2 c_stacked (.cons (.var 0) (.cons (.var 1) .nil))) (.cons (.call 2 c_beside (.cons (.var 0) (.cons (.var 1) .nil))) .nil)) 4 5)
    (.seq (.ifS (.orB (.bool (.op2 false false (cmD .ne) (.call 1 c_least_spread (.cons (.var 4) .nil)) (.callN maxD2 (.cons (.call 1 c_least_spread (.cons (.var 0) .nil)) (.cons (.call 1 c_least_spread (.cons (.var 1) .nil)) .nil))))) (.bool (.op2 false false (cmD .ne) (.call 1 c_count_rows (.cons (.var 4) .nil)) (.op2 false false (op2 .mul) (.call 1 c_count_rows (.cons (.var 0) .nil)) (.call 1 c_count_rows (.cons (.var 1) .nil)))))) (.ret (.val (.bool false))) .skip)
    (.seq (.asg (.val (.int 1)) (tgN 2))
    (.seq (.forS (.rng1 (.cons (.op2 false false ixD (.var 1) (.val (.int 0))) .nil)) (tgN 3) (.asg (.op2 false false (op2 .fdiv) (.op2 false false (op2 .mul) (.var 2) (.op2 false false (op2 .add) (.op2 false false (op2 .add) (.op2 false false ixD (.var 0) (.val (.int 0))) (.var 3)) (.val (.int 1)))) (.op2 false false (op2 .add) (.var 3) (.val (.int 1)))) (tgN 2)))
    (.seq (.ifS (.orB (.bool (.op2 false false (cmD .ne) (.call 1 c_count_rows (.cons (.var 5) .nil)) (.op2 false false (op2 .mul) (.op2 false false (op2 .mul) (.var 2) (.call 1 c_count_rows (.cons (.var 0) .nil))) (.call 1 c_count_rows (.cons (.var 1) .nil))))) (.bool (.op2 false false (cmD .ne) (.call1 false lenD (.call 1 c_equals (.cons (.var 5) .nil))) (.op2 false false (op2 .add) (.op2 false false (op2 .add) (.call1 false lenD (.call 1 c_equals (.cons (.var 0) .nil))) (.call1 false lenD (.call 1 c_equals (.cons (.var 1) .nil)))) (.op2 false false (op2 .mul) (.op2 false false ixD (.var 0) (.val (.int 0))) (.op2 false false ixD (.var 1) (.val (.int 0)))))))) (.ret (.val (.bool false))) .skip)
    (.seq (.ifS (.bool (.op2 false false (cmD .ne) (.call 1 c_turned (.cons (.var 4) .nil)) (.call 2 c__law_called (.cons (.call 2 c_stacked (.cons (.call 1 c_turned (.cons (.var 1) .nil)) (.cons (.call 1 c_turned (.cons (.var 0) .nil)) .nil))) (.cons (.lc (.rng1 (.cons (.op2 false false (op2 .add) (.op2 false false ixD (.var 0) (.val (.int 0))) (.op2 false false ixD (.var 1) (.val (.int 0)))) .nil)) [8] (tgN 8) (.val true) (.op2 false false (op2 .mod) (.op2 false false (op2 .add) (.var 8) (.op2 false false ixD (.var 0) (.val (.int 0)))) (.op2 false false (op2 .add) (.op2 false false ixD (.var 0) (.val (.int 0))) (.op2 false false ixD (.var 1) (.val (.int 0)))))) .nil))))) (.ret (.val (.bool false))) .skip)
    (.seq (.par (.cons (.tupV (.rg1 (.op2 false false ixD (.var 0) (.val (.int 0))))) (.cons (.tupV (.rg2 (.op2 false false ixD (.var 0) (.val (.int 0))) (.op2 false false (op2 .add) (.op2 false false ixD (.var 0) (.val (.int 0))) (.op2 false false ixD (.var 1) (.val (.int 0)))))) .nil)) 6 7)
    (.ret (.andV (.op2 false false (cmD .eq) (.lst (.cons (.call 2 c_part (.cons (.var 4) (.cons (.var 6) .nil))) (.cons (.call 2 c_part (.cons (.var 4) (.cons (.var 7) .nil))) (.cons (.call 2 c_part (.cons (.var 5) (.cons (.var 6) .nil))) (.cons (.call 2 c_part (.cons (.var 5) (.cons (.var 7) .nil))) .nil))))) (.lst (.cons (.var 0) (.cons (.var 1) (.cons (.var 0) (.cons (.var 1) .nil)))))) (.op2 false false (cmD .ge) (.call 1 c_least_spread (.cons (.var 5) .nil)) (.callN maxD2 (.cons (.call 1 c_least_spread (.cons (.var 0) .nil)) (.cons (.call 1 c_least_spread (.cons (.var 1) .nil)) .nil))))))))))))))

def m__law_deeds (c__law_keeping : C2) (c__law_some : C2) (c__law_under : C2) : MS :=
  (.seq (.asg (.call 1 c__law_keeping (.cons (.var 1) .nil)) (tgN 2))
    (.seq (.asg (.tup (.cons (.call1 false listD (.call 2 c__law_some (.cons (.var 0) (.cons (.var 2) .nil)))) (.cons (.op2 false false ixD (.var 1) (.val (.int 0))) (.cons (.bind .nil M.mkc) .nil)))) (tgT [4, 5, 6]))
    (.seq (.forS (.rng1 (.cons (.op2 false false (op2 .add) (.val (.int 3)) (.call 2 c__law_under (.cons (.var 0) (.cons (.val (.int 5)) .nil)))) .nil)) (tgN 3) (.ifS (.andB (.bool (.op2 false false (cmD .eq) (.call 2 c__law_under (.cons (.var 0) (.cons (.val (.int 3)) .nil))) (.val (.int 0)))) (.bool (.op2 false false (cmD .lt) (.var 5) (.val (.int 5))))) (.seq (.asg (.call 2 c__law_under (.cons (.var 0) (.cons (.op2 false false (op2 .add) (.var 5) (.val (.int 1))) .nil))) (tgN 7))
    (.seq (.asg (.call1 false tupleD (.call1 false sortedD (.lc (.items (.slice false (.var 4) (.val none) (.somI (.var 7)))) [13] (tgN 13) (.bool (.op2 false false (cmD .eq) (.call 2 c__law_under (.cons (.var 0) (.cons (.val (.int 2)) .nil))) (.val (.int 0)))) (.var 13)))) (tgN 8))
    (.seq (.asg (.call1 false tupleD (.call1 false sortedD (.lc (.items (.slice false (.var 4) (.somI (.var 7)) (.val none))) [13] (tgN 13) (.bool (.op2 false false (cmD .eq) (.call 2 c__law_under (.cons (.var 0) (.cons (.val (.int 2)) .nil))) (.val (.int 0)))) (.var 13)))) (tgN 9))
    (.seq (.expr (.append (.var 6) (.tup (.cons (.val (.str "come")) (.cons (.var 8) (.cons (.var 9) .nil))))))
    (.par (.cons (.op2 false false (op2 .add) (.op2 false false (op2 .add) (.slice false (.var 4) (.val none) (.somI (.var 7))) (.lst (.cons (.var 5) .nil))) (.slice false (.var 4) (.somI (.var 7)) (.val none))) (.cons (.op2 false false (op2 .add) (.var 5) (.val (.int 1))) .nil)) 4 5))))) (.seq (.asg (.tup .nil) (tgN 10))
    (.seq (.forS (.rng1 (.cons (.ite (.bool (.op2 false false (cmD .gt) (.var 5) (.val (.int 1)))) (.call 2 c__law_under (.cons (.var 0) (.cons (.val (.int 3)) .nil))) (.val (.int 0))) .nil)) (tgN 11) (.seq (.asg (.call 2 c__law_under (.cons (.var 0) (.cons (.op2 false false (op2 .sub) (.var 5) (.val (.int 1))) .nil))) (tgN 12))
    (.asg (.op2 false false (op2 .add) (.var 10) (.tup (.cons (.tup (.cons (.op2 false false ixD (.var 4) (.var 12)) (.cons (.op2 false false ixD (.var 4) (.op2 false false (op2 .add) (.op2 false false (op2 .add) (.var 12) (.val (.int 1))) (.call 2 c__law_under (.cons (.var 0) (.cons (.op2 false false (op2 .sub) (.op2 false false (op2 .sub) (.var 5) (.val (.int 1))) (.var 12)) .nil))))) .nil))) .nil))) (tgN 10))))
    (.expr (.append (.var 6) (.tup (.cons (.val (.str "all")) (.cons (.var 10) (.cons (.tup .nil) .nil))))))))))
    (.seq (.freeze 6) (.ret (.var 6))))))

-- equals_of: not covered: No('rev')
-- _law_spoilt: not covered: No('rev')
-- least_of: not covered: No('call min')
-- _law_best: not covered: No('call min')
-- ways_from: not covered: No("Dict(keys=[Name(id='thing', ctx=Load())], values=[Constant(v")
-- bar_of: not covered: No('UnaryOp(op=USub(), operand=BinOp(left=UnaryOp(op=USub(), ope')
-- any_least: not covered: No('call min')
-- way: not covered: No("call Call(func=Attribute(value=Call(func=Name(id='ways_from', ctx=Load()), a
-- _law_ways: not covered: No('Dict(keys=[], values=[])')
-- exchanges: not covered: No('enumerate')
-- least_sum: not covered: No('call min')
-- nearest_best: not covered: No('call min')
-- fewest_split: not covered: No('call min')
-- _law_split: not covered: No('range3')
-- fewest_more: not covered: No('call min')
-- with_more: not covered: No('call min')
-- text_of: not covered: No('call str')
-- _law_value: not covered: No("call Call(func=Attribute(value=Name(id='Order', ctx=Load()), attr='read', ct
-- _law_came: not covered: No("Attribute(value=Name(id='found', ctx=Load()), attr='source',")
-- _law_made: not covered: No('Lambda(args=arguments(posonlyargs=[], args=[], kwonlyargs=[]')
-- _law_odd: not covered: KeyError(<class 'ast.BitOr'>)
-- _law_shown: not covered: No("Attribute(value=Name(id='value', ctx=Load()), attr='source',")
-- _law_shows: not covered: No("Attribute(value=Name(id='queue', ctx=Load()), attr='order', ")
-- _law_bad: not covered: No("call Call(func=Attribute(value=Name(id='queue', ctx=Load()), attr='tell', ct
-- _law_call: not covered: No("call Call(func=Attribute(value=Name(id='queue', ctx=Load()), attr='come', ct
-- _law_led: not covered: No("stmt AugAssign(target=Name(id='queue', ctx=Store()), op=Add(), va")
-- _law_back: not covered: No('range3')
-- _law_turned_right: not covered: No('rev')
-- _law_do: not covered: No("call Call(func=Attribute(value=Name(id='queue', ctx=Load()), attr='come', ct
-- _law_single: not covered: No("call Call(func=Attribute(value=Name(id='queue', ctx=Load()), attr='come', ct
-- _law_look: not covered: No("call Call(func=Attribute(value=Name(id='queue', ctx=Load()), attr='lines', c
-- _law_detour: not covered: No("stmt AugAssign(target=Name(id='queue', ctx=Store()), op=Add(), va")
end EN

/-! == CP == -/
set_option Elab.async false
set_option linter.all false
set_option maxRecDepth 100000
set_option maxHeartbeats 4000000
set_option autoImplicit false
/-! CP: what code without cells does, as functions that can be computed. -/
namespace EN
open PySem PySem.Spec PyProof.Rows L2
inductive R (α : Type) where
  | ok (a : α)
  | ex (x : Str)
  | no
namespace R
variable {α β : Type}
def bind (r : R α) (f : α → R β) : R β := match r with
  | .ok a => f a
  | .ex x => .ex x
  | .no => .no
def ofO : Option α → R α
  | some a => .ok a
  | none => .no
def run (r : R α) (S : Sto) (Q : α → Sto → Prop) (E : QX) : Prop := match r with
  | .ok a => Q a S
  | .ex x => E x S
  | .no => False
theorem run_bind {r : R α} {f : α → R β} {S : Sto} {Q : β → Sto → Prop} {E : QX} (h : (r.bind f).run S Q E) : r.run S (fun a S1 => (f a).run S1 Q E) E := by
  cases r with
  | ok a => exact h
  | ex x => exact h
  | no => exact h
/-- an error is none of it -/
def calm (r : R α) : R α := match r with
  | .ok a => .ok a
  | _ => .no
theorem run_calm {r : R α} {S : Sto} {Q : α → Sto → Prop} {E : QX} (h : r.calm.run S Q E) : r.run S Q (fun _ _ => False) := by
  cases r with
  | ok a => exact h
  | ex x => exact h
  | no => exact h
def res (r : R D) : Res := match r with
  | .ok d => .ok d
  | .ex x => .ex x
  | .no => .no
end R
def Res.r : Res → R D
  | .ok d => .ok d
  | .ex x => .ex x
  | .no => .no
structure PF (α : Type) where
  f : Lo → R α
namespace PF
variable {α β : Type}
def val (a : α) : PF α := ⟨fun _ => .ok a⟩
def opt (o : Option α) : PF α := ⟨fun _ => .ofO o⟩
def var (i : Nat) : PF D := ⟨fun ρ => match ρ[i]? with
  | some (some d) => .ok d
  | _ => .no⟩
def bind (m : PF α) (n : α → PF β) : PF β := ⟨fun ρ => (m.f ρ).bind fun a => (n a).f ρ⟩
def op2 (r1 r2 : Bool) (g : D → D → Option D) (ma mb : PF D) : PF D := ma.bind fun x => mb.bind fun y => .opt (g x y)
def bool (m : PF D) : PF Bool := m.bind fun d => .opt (asB d)
def ite (m : PF Bool) (a b : PF α) : PF α := m.bind fun k => cond k a b
def chain (g g' : D → D → Option D) (ma mb mc : PF D) : PF D := ma.bind fun x => mb.bind fun y => (PF.opt ((g x y).bind asB)).bind fun k => cond k (mc.bind fun z => .opt (g' y z)) (.val (.bool false))
def andB (m n : PF Bool) : PF Bool := m.ite n (.val false)
def orB (m n : PF Bool) : PF Bool := m.ite (.val true) n
def notB (m : PF Bool) : PF Bool := m.bind fun k => .val (!k)
def andV (m n : PF D) : PF D := m.bool.ite n (.val (.bool false))
def orV (m n : PF D) : PF D := m.bool.ite (.val (.bool true)) n
def notV (m : PF D) : PF D := m.bool.bind fun k => .val (.bool (!k))
def nil : PF (List D) := .val []
def cons (m : PF D) (t : PF (List D)) : PF (List D) := m.bind fun d => t.bind fun ds => .val (d :: ds)
def tup (t : PF (List D)) : PF D := t.bind fun ds => .opt (if ds.length ≤ sizeLine then some (.tuple ds) else none)
def lst (t : PF (List D)) : PF D := t.bind fun ds => .opt (if ds.length ≤ sizeLine then some (.list ds) else none)
def items (m : PF D) : PF (List D) := m.bind fun d => .opt (asL d)
def rng1 (t : PF (List D)) : PF (List D) := t.bind fun ds => .opt (rngD1 ds)
def rng2 (t : PF (List D)) : PF (List D) := t.bind fun ds => .opt (rngD2 ds)
def zip (t : PF (List D)) : PF (List D) := t.bind fun ds => .opt (zipD ds)
def call1 (r : Bool) (g : D → Option D) (m : PF D) : PF D := m.bind fun d => .opt (g d)
def callN (g : List D → Option D) (t : PF (List D)) : PF D := t.bind fun ds => .opt (g ds)
def somI (m : PF D) : PF (Option Int) := m.bind fun d => .opt ((asI d).map some)
def slice (r : Bool) (m : PF D) (lo hi : PF (Option Int)) : PF D := m.bind fun d => lo.bind fun l => hi.bind fun u => .opt (sliceD l u d)
def meth (T : String) (r : Bool) (g : D → D → Option D) (mo mv : PF D) : PF D := mo.bind fun d => (PF.opt (if isTy T d then some () else none)).bind fun _ => mv.bind fun y => .opt (g d y)
def rg1 (ma : PF D) : PF (List D) := ma.bind fun d => .opt ((asI d).bind fun n => rgD 0 n)
def rg2 (ma mb : PF D) : PF (List D) := ma.bind fun d => mb.bind fun d2 => .opt ((asI d).bind fun n => (asI d2).bind fun n2 => rgD n n2)
def lstV (t : PF (List D)) : PF D := t.bind fun ds => .val (.list ds)
def tupV (t : PF (List D)) : PF D := t.bind fun ds => .val (.tuple ds)
def call (n : Nat) (c : List D → Res) (t : PF (List D)) : PF D := t.bind fun ds => ⟨fun _ => if ds.length = n then (c ds).r else .no⟩
def lcP (vs : List Nat) (tg : Tg) (mt : PF Bool) (me : PF D) : List D → List D → Lo → R (List D)
  | [], acc, _ => .ok acc
  | d :: ds, acc, ρ => match tg d (wipeD ρ vs) with
    | none => .no
    | some ρ' => ((mt.f ρ').calm).bind fun k => cond k (((me.f ρ').calm).bind fun y => if acc.length < sizeLine then lcP vs tg mt me ds (acc ++ [y]) ρ else .no) (lcP vs tg mt me ds acc ρ)
def lc (mi : PF (List D)) (vs : List Nat) (tg : Tg) (mt : PF Bool) (me : PF D) : PF D := ⟨fun ρ => (mi.f ρ).bind fun ds => (lcP vs tg mt me ds [] ρ).bind fun acc => .ok (.list acc)⟩
def lcP2 (vs : List Nat) (tg : Tg) (mi1 : PF (List D)) (vs1 : List Nat) (tg1 : Tg) (mt : PF Bool) (me : PF D) : List D → List D → Lo → R (List D)
  | [], acc, _ => .ok acc
  | d :: ds, acc, ρ => match tg d (wipeD ρ vs) with
    | none => .no
    | some ρ' => ((mi1.f ρ').calm).bind fun es => (lcP vs1 tg1 mt me es acc ρ').bind fun acc' => lcP2 vs tg mi1 vs1 tg1 mt me ds acc' ρ
def lc2 (mi : PF (List D)) (vs : List Nat) (tg : Tg) (mi1 : PF (List D)) (vs1 : List Nat) (tg1 : Tg) (mt : PF Bool) (me : PF D) : PF D := ⟨fun ρ => (mi.f ρ).bind fun ds => (lcP2 vs tg mi1 vs1 tg1 mt me ds [] ρ).bind fun acc => .ok (.list acc)⟩
end PF
def Sim {α : Type} (m : M α) (p : PF α) : Prop := ∀ (ρ : Lo) (S : Sto) (Q : α → Sto → Prop) (E : QX), (p.f ρ).run S Q E → m.run ρ S Q E
namespace Sim
variable {α β : Type} {ma mb mc : M D} {pa pb pc : PF D} {t : M (List D)} {u : PF (List D)} {x y : M Bool} {px py : PF Bool}
theorem val {a : α} : Sim (M.val a) (PF.val a) := fun _ _ _ _ h => h
theorem opt {o : Option α} : Sim (M.opt fun _ => o) (PF.opt o) := fun ρ S Q E h => by
  cases o with
  | none => exact h.elim
  | some a => exact ⟨a, rfl, h⟩
theorem var {i : Nat} : Sim (M.var i) (PF.var i) := fun ρ S Q E h => by
  have h' : (match ρ[i]? with
    | some (some d) => (R.ok d : R D)
    | _ => .no).run S Q E := h
  split at h'
  · rename_i d e
    exact ⟨d, e, h'⟩
  · exact h'.elim
theorem bind {m : M α} {n : α → M β} {p : PF α} {q : α → PF β} (h1 : Sim m p) (h2 : ∀ a, Sim (n a) (q a)) : Sim (m.bind n) (p.bind q) := fun ρ S Q E h =>
  m.mono (fun a S1 k => h2 a ρ S1 Q E k) (fun _ _ k => k) (h1 ρ S _ E (R.run_bind h))
theorem cond {k : Bool} {m n : M α} {p q : PF α} (h1 : Sim m p) (h2 : Sim n q) : Sim (_root_.cond k m n) (_root_.cond k p q) := by
  cases k
  · exact h2
  · exact h1
theorem op2 {g : D → D → Option D} (h1 : Sim ma pa) (h2 : Sim mb pb) : Sim (M.op2 false false g ma mb) (PF.op2 false false g pa pb) := h1.bind fun _ => h2.bind fun _ => opt
theorem bool (h : Sim ma pa) : Sim (M.bool ma) (PF.bool pa) := h.bind fun _ => opt
theorem ite {m n : M α} {p q : PF α} (h : Sim x px) (h1 : Sim m p) (h2 : Sim n q) : Sim (M.ite x m n) (PF.ite px p q) := h.bind fun _ => cond h1 h2
theorem chain {g g' : D → D → Option D} (h1 : Sim ma pa) (h2 : Sim mb pb) (h3 : Sim mc pc) : Sim (M.chain g g' ma mb mc) (PF.chain g g' pa pb pc) := h1.bind fun _ => h2.bind fun _ => opt.bind fun _ => cond (h3.bind fun _ => opt) val
theorem andB (h1 : Sim x px) (h2 : Sim y py) : Sim (M.andB x y) (PF.andB px py) := ite h1 h2 val
theorem orB (h1 : Sim x px) (h2 : Sim y py) : Sim (M.orB x y) (PF.orB px py) := ite h1 val h2
theorem notB (h1 : Sim x px) : Sim (M.notB x) (PF.notB px) := h1.bind fun _ => val
theorem andV (h1 : Sim ma pa) (h2 : Sim mb pb) : Sim (M.andV ma mb) (PF.andV pa pb) := ite h1.bool h2 val
theorem orV (h1 : Sim ma pa) (h2 : Sim mb pb) : Sim (M.orV ma mb) (PF.orV pa pb) := ite h1.bool val h2
theorem notV (h1 : Sim ma pa) : Sim (M.notV ma) (PF.notV pa) := h1.bool.bind fun _ => val
theorem nil : Sim M.nil PF.nil := val
theorem cons (h1 : Sim ma pa) (h2 : Sim t u) : Sim (M.cons ma t) (PF.cons pa u) := h1.bind fun _ => h2.bind fun _ => val
theorem tup (h : Sim t u) : Sim (M.tup t) (PF.tup u) := h.bind fun _ => opt
theorem lst (h : Sim t u) : Sim (M.lst t) (PF.lst u) := h.bind fun _ => opt
theorem items (h : Sim ma pa) : Sim (M.items ma) (PF.items pa) := h.bind fun _ => opt
theorem rng1 (h : Sim t u) : Sim (M.rng1 t) (PF.rng1 u) := h.bind fun _ => opt
theorem rng2 (h : Sim t u) : Sim (M.rng2 t) (PF.rng2 u) := h.bind fun _ => opt
theorem zip (h : Sim t u) : Sim (M.zip t) (PF.zip u) := h.bind fun _ => opt
theorem call1 {g : D → Option D} (h : Sim ma pa) : Sim (M.call1 false g ma) (PF.call1 false g pa) := h.bind fun _ => opt
theorem callN {g : List D → Option D} (h : Sim t u) : Sim (M.callN g t) (PF.callN g u) := h.bind fun _ => opt
theorem somI (h : Sim ma pa) : Sim (M.somI ma) (PF.somI pa) := h.bind fun _ => opt
theorem slice {l1 l2 : M (Option Int)} {q1 q2 : PF (Option Int)} (h : Sim ma pa) (h1 : Sim l1 q1) (h2 : Sim l2 q2) : Sim (M.slice false ma l1 l2) (PF.slice false pa q1 q2) := h.bind fun _ => h1.bind fun _ => h2.bind fun _ => opt
theorem meth {T : String} {g : D → D → Option D} (h1 : Sim ma pa) (h2 : Sim mb pb) : Sim (M.meth T false g ma mb) (PF.meth T false g pa pb) := h1.bind fun _ => (opt (α := Unit)).bind fun _ => h2.bind fun _ => opt
theorem rg1 (h : Sim ma pa) : Sim (M.rg1 ma) (PF.rg1 pa) := h.bind fun _ => opt
theorem rg2 (h1 : Sim ma pa) (h2 : Sim mb pb) : Sim (M.rg2 ma mb) (PF.rg2 pa pb) := h1.bind fun _ => h2.bind fun _ => opt
theorem lstV (h : Sim t u) : Sim (M.lstV t) (PF.lstV u) := h.bind fun _ => val
theorem tupV (h : Sim t u) : Sim (M.tupV t) (PF.tupV u) := h.bind fun _ => val
theorem call {n : Nat} {g : List D → Res} (h : Sim t u) : Sim (M.call n (.pure g) t) (PF.call n g u) := h.bind fun ds => fun ρ S Q E k => by
  have k' : (if ds.length = n then (g ds).r else .no : R D).run S Q E := k
  split at k'
  · rename_i e
    refine ⟨e, ?_⟩
    show (g ds).run S Q E
    cases e2 : g ds with
    | ok d => rw [e2] at k'; exact k'
    | ex x => rw [e2] at k'; exact k'
    | no => rw [e2] at k'; exact k'
  · exact k'.elim
theorem calm_ok {r : R α} {a : α} (h : r.calm = .ok a) : r = .ok a := by
  cases r with
  | ok b => exact h
  | ex x => cases h
  | no => cases h
theorem calm_ex {r : R α} {e : Str} : r.calm ≠ .ex e := fun h => by cases r <;> cases h
theorem bind_ok {r : R α} {f : α → R β} {b : β} (h : r.bind f = .ok b) : ∃ a, r = .ok a ∧ f a = .ok b := by
  cases r with
  | ok a => exact ⟨a, rfl, h⟩
  | ex x => cases h
  | no => cases h
theorem bind_ex {r : R α} {f : α → R β} {e : Str} (h : r.bind f = .ex e) : r = .ex e ∨ ∃ a, r = .ok a ∧ f a = .ex e := by
  cases r with
  | ok a => exact .inr ⟨a, rfl, h⟩
  | ex x => cases h; exact .inl rfl
  | no => cases h
theorem run_of {m : M α} {p : PF α} (s : Sim m p) {ρ : Lo} {S : Sto} {a : α} {Q : α → Sto → Prop} {E : QX} (h : p.f ρ = .ok a) (q : Q a S) : m.run ρ S Q E := s ρ S Q E (by rw [h]; exact q)
theorem lcP_ok {vs : List Nat} {tg : Tg} (h1 : Sim x px) (h2 : Sim ma pa) {K : List D → Sto → Prop} {S : Sto} {r : List D} (k : K r S) : ∀ {ds acc : List D} {ρ : Lo}, PF.lcP vs tg px pa ds acc ρ = .ok r → EN.lcG vs tg x ma K ds acc ρ S
  | [], acc, ρ, h => by cases h; exact k
  | d :: ds, acc, ρ, h => by
    unfold PF.lcP at h
    split at h
    · cases h
    · rename_i ρ' e
      obtain ⟨b, hb, h⟩ := bind_ok h
      refine ⟨ρ', e, h1.run_of (calm_ok hb) ?_⟩
      cases b with
      | false => exact lcP_ok h1 h2 k h
      | true =>
        obtain ⟨y, hy, h⟩ := bind_ok (show (((pa.f ρ').calm).bind fun y => if acc.length < sizeLine then PF.lcP vs tg px pa ds (acc ++ [y]) ρ else .no) = .ok r from h)
        refine h2.run_of (calm_ok hy) ?_
        split at h
        · rename_i hl
          exact ⟨hl, lcP_ok h1 h2 k h⟩
        · cases h
theorem lcP_ex {vs : List Nat} {tg : Tg} {e : Str} : ∀ {ds acc : List D} {ρ : Lo}, PF.lcP vs tg px pa ds acc ρ ≠ .ex e
  | [], acc, ρ => fun h => by cases h
  | d :: ds, acc, ρ => fun h => by
    unfold PF.lcP at h
    split at h
    · cases h
    · rename_i ρ' e'
      rcases bind_ex h with h | ⟨b, hb, h⟩
      · exact calm_ex h
      · cases b with
        | false => exact lcP_ex (show PF.lcP vs tg px pa ds acc ρ = .ex e from h)
        | true =>
          rcases bind_ex (show (((pa.f ρ').calm).bind fun y => if acc.length < sizeLine then PF.lcP vs tg px pa ds (acc ++ [y]) ρ else .no) = .ex e from h) with h | ⟨y, hy, h⟩
          · exact calm_ex h
          · split at h
            · exact lcP_ex h
            · cases h
theorem lc {mi : M (List D)} {pi : PF (List D)} {vs : List Nat} {tg : Tg} (h0 : Sim mi pi) (h1 : Sim x px) (h2 : Sim ma pa) : Sim (M.lc mi vs tg x ma) (PF.lc pi vs tg px pa) := fun ρ S Q E h => by
  refine mi.mono (fun ds S1 k => ?_) (fun _ _ k => k) (h0 ρ S (fun ds S1 => ((PF.lcP vs tg px pa ds [] ρ).bind fun acc => (R.ok (PyData.list acc) : R D)).run S1 Q E) E (R.run_bind h))
  cases e : PF.lcP vs tg px pa ds [] ρ with
  | ok r => rw [e] at k; exact lcP_ok h1 h2 k e
  | ex x => exact (lcP_ex e).elim
  | no => rw [e] at k; exact k.elim
theorem lcP2_ok {mi1 : M (List D)} {pi1 : PF (List D)} {vs vs1 : List Nat} {tg tg1 : Tg} (h0 : Sim mi1 pi1) (h1 : Sim x px) (h2 : Sim ma pa) {K : List D → Sto → Prop} {S : Sto} {r : List D} (k : K r S) : ∀ {ds acc : List D} {ρ : Lo}, PF.lcP2 vs tg pi1 vs1 tg1 px pa ds acc ρ = .ok r → EN.lcG2 vs tg mi1 vs1 tg1 x ma K ds acc ρ S
  | [], acc, ρ, h => by cases h; exact k
  | d :: ds, acc, ρ, h => by
    unfold PF.lcP2 at h
    split at h
    · cases h
    · rename_i ρ' e
      obtain ⟨es, hb, h⟩ := bind_ok h
      obtain ⟨acc', hc, h⟩ := bind_ok h
      exact ⟨ρ', e, h0.run_of (calm_ok hb) (lcP_ok h1 h2 (K := fun acc' S2 => EN.lcG2 vs tg mi1 vs1 tg1 x ma K ds acc' ρ S2) (lcP2_ok h0 h1 h2 k h) hc)⟩
theorem lcP2_ex {pi1 : PF (List D)} {vs vs1 : List Nat} {tg tg1 : Tg} {e : Str} : ∀ {ds acc : List D} {ρ : Lo}, PF.lcP2 vs tg pi1 vs1 tg1 px pa ds acc ρ ≠ .ex e
  | [], acc, ρ => fun h => by cases h
  | d :: ds, acc, ρ => fun h => by
    unfold PF.lcP2 at h
    split at h
    · cases h
    · rcases bind_ex h with h | ⟨b, hb, h⟩
      · exact calm_ex h
      · rcases bind_ex h with h | ⟨c, hc, h⟩
        · exact lcP_ex h
        · exact lcP2_ex h
theorem lc2 {mi mi1 : M (List D)} {pi pi1 : PF (List D)} {vs vs1 : List Nat} {tg tg1 : Tg} (h : Sim mi pi) (h0 : Sim mi1 pi1) (h1 : Sim x px) (h2 : Sim ma pa) : Sim (M.lc2 mi vs tg mi1 vs1 tg1 x ma) (PF.lc2 pi vs tg pi1 vs1 tg1 px pa) := fun ρ S Q E q => by
  refine mi.mono (fun ds S1 k => ?_) (fun _ _ k => k) (h ρ S (fun ds S1 => ((PF.lcP2 vs tg pi1 vs1 tg1 px pa ds [] ρ).bind fun acc => (R.ok (PyData.list acc) : R D)).run S1 Q E) E (R.run_bind q))
  cases e : PF.lcP2 vs tg pi1 vs1 tg1 px pa ds [] ρ with
  | ok r => rw [e] at k; exact lcP2_ok h0 h1 h2 k e
  | ex x => exact (lcP2_ex e).elim
  | no => rw [e] at k; exact k.elim
end Sim
end EN

/-! == CP2 == -/
set_option Elab.async false
set_option linter.all false
set_option maxRecDepth 100000
set_option maxHeartbeats 4000000
set_option autoImplicit false
/-! CP2: statements without cells, as functions that can be computed. -/
namespace EN
open PySem PySem.Spec PyProof.Rows L2
inductive RS where
  | nx (ρ : Lo)
  | rt (d : D)
  | ex (x : Str) (ρ : Lo)
  | no
namespace RS
def run (r : RS) (S : Sto) (nx : Lo → Sto → Prop) (rt : D → Sto → Prop) (xs : Str → Lo → Sto → Prop) : Prop := match r with
  | .nx ρ => nx ρ S
  | .rt d => rt d S
  | .ex x ρ => xs x ρ S
  | .no => False
def then_ (r : RS) (f : Lo → RS) : RS := match r with
  | .nx ρ => f ρ
  | r => r
def of {α : Type} (r : R α) (ρ : Lo) (f : α → RS) : RS := match r with
  | .ok a => f a
  | .ex x => .ex x ρ
  | .no => .no
def res : RS → Res
  | .nx _ => .ok .none
  | .rt d => .ok d
  | .ex x _ => .ex x
  | .no => .no
end RS
structure PS where
  f : Lo → RS
namespace PS
def skip : PS := ⟨.nx⟩
def seq (a b : PS) : PS := ⟨fun ρ => (a.f ρ).then_ b.f⟩
def ret (m : PF D) : PS := ⟨fun ρ => .of (m.f ρ) ρ .rt⟩
def asg (m : PF D) (tg : Tg) : PS := ⟨fun ρ => .of (m.f ρ) ρ fun d => match tg d ρ with
  | some ρ' => .nx ρ'
  | none => .no⟩
def par (t : PF (List D)) (i j : Nat) : PS := ⟨fun ρ => .of (t.f ρ) ρ fun ds => match ds with
  | [a, b] => .nx ((ρ.set i (some a)).set j (some b))
  | _ => .no⟩
def expr (m : PF D) : PS := ⟨fun ρ => .of (m.f ρ) ρ fun _ => .nx ρ⟩
def ifS (c : PF Bool) (a b : PS) : PS := ⟨fun ρ => .of (c.f ρ) ρ fun k => cond k (a.f ρ) (b.f ρ)⟩
def raise (x : Str) : PS := ⟨fun ρ => .ex x ρ⟩
def raiseI (x : Str) (m : PF D) : PS := ⟨fun ρ => .of (m.f ρ) ρ fun d => match asI d with
  | some n => if n.natAbs.log2 < 1000 then .ex x ρ else .no
  | none => .no⟩
def forP (tg : Tg) (body : PS) : List D → Lo → RS
  | [], ρ => .nx ρ
  | d :: ds, ρ => match tg d ρ with
    | some ρ' => (body.f ρ').then_ (forP tg body ds)
    | none => .no
def forS (mi : PF (List D)) (tg : Tg) (body : PS) : PS := ⟨fun ρ => .of (mi.f ρ) ρ fun ds => forP tg body ds ρ⟩
def whileP (c : PF Bool) (body : PS) : Nat → Lo → RS
  | 0, _ => .no
  | n + 1, ρ => .of (c.f ρ) ρ fun k => cond k ((body.f ρ).then_ (whileP c body n)) (.nx ρ)
def whileS (c : PF Bool) (body : PS) : PS := ⟨fun ρ => whileP c body 100000 ρ⟩
end PS
def SimS (m : MS) (p : PS) : Prop := ∀ (ρ : Lo) (S : Sto) (nx : Lo → Sto → Prop) (rt : D → Sto → Prop) (xs : Str → Lo → Sto → Prop), (p.f ρ).run S nx rt xs → m.run ρ S nx rt xs
namespace SimS
variable {a b : MS} {p q : PS} {m : M D} {r : PF D} {c : M Bool} {k : PF Bool} {t : M (List D)} {u : PF (List D)}
theorem of_run {α : Type} {m : M α} {r : PF α} (s : Sim m r) {ρ : Lo} {S : Sto} {f : α → RS} {nx : Lo → Sto → Prop} {rt : D → Sto → Prop} {xs : Str → Lo → Sto → Prop} (h : (RS.of (r.f ρ) ρ f).run S nx rt xs) :
    m.run ρ S (fun a S1 => (f a).run S1 nx rt xs) (fun x S1 => xs x ρ S1) := s ρ S _ _ (by
  cases e : r.f ρ with
  | ok a => rw [e] at h; exact h
  | ex x => rw [e] at h; exact h
  | no => rw [e] at h; exact h)
theorem then_run {r : RS} {f : Lo → RS} {S : Sto} {nx : Lo → Sto → Prop} {rt : D → Sto → Prop} {xs : Str → Lo → Sto → Prop} (h : (r.then_ f).run S nx rt xs) : r.run S (fun ρ1 S1 => (f ρ1).run S1 nx rt xs) rt xs := by
  cases r with
  | nx ρ => exact h
  | rt d => exact h
  | ex x ρ => exact h
  | no => exact h
theorem skip : SimS .skip .skip := fun _ _ _ _ _ h => h
theorem seq (h1 : SimS a p) (h2 : SimS b q) : SimS (a.seq b) (p.seq q) := fun ρ S nx rt xs h =>
  a.mono (fun ρ1 S1 k => h2 ρ1 S1 nx rt xs k) (fun _ _ k => k) (fun _ _ _ k => k) (h1 ρ S _ rt xs (then_run h))
theorem ret (h : Sim m r) : SimS (.ret m) (.ret r) := fun ρ S nx rt xs k => of_run (f := .rt) h k
theorem asg {tg : Tg} (h : Sim m r) : SimS (.asg m tg) (.asg r tg) := fun ρ S nx rt xs k => m.mono (fun d S1 z => by
  have z' : (match tg d ρ with
    | some ρ' => RS.nx ρ'
    | none => .no).run S1 nx rt xs := z
  split at z'
  · rename_i ρ' e
    exact ⟨ρ', e, z'⟩
  · exact z'.elim) (fun _ _ z => z) (of_run h k)
theorem par {i j : Nat} (h : Sim t u) : SimS (.par t i j) (.par u i j) := fun ρ S nx rt xs k => t.mono (fun ds S1 z => by
  have z' : (match ds with
    | [a, b] => RS.nx ((ρ.set i (some a)).set j (some b))
    | _ => .no).run S1 nx rt xs := z
  split at z'
  · exact ⟨_, _, rfl, z'⟩
  · exact z'.elim) (fun _ _ z => z) (of_run h k)
theorem expr (h : Sim m r) : SimS (.expr m) (.expr r) := fun ρ S nx rt xs k => of_run (f := fun _ => .nx ρ) h k
theorem ifS (h : Sim c k) (h1 : SimS a p) (h2 : SimS b q) : SimS (.ifS c a b) (.ifS k p q) := fun ρ S nx rt xs z => c.mono (fun y S1 z => by
  cases y with
  | false => exact h2 ρ S1 nx rt xs z
  | true => exact h1 ρ S1 nx rt xs z) (fun _ _ z => z) (of_run h z)
theorem raise {x : Str} : SimS (.raise x) (.raise x) := fun _ _ _ _ _ h => h
theorem raiseI {x : Str} (h : Sim m r) : SimS (.raiseI x m) (.raiseI x r) := fun ρ S nx rt xs k => m.mono (fun d S1 z => by
  have z' : (match asI d with
    | some n => if n.natAbs.log2 < 1000 then RS.ex x ρ else .no
    | none => .no).run S1 nx rt xs := z
  split at z'
  · rename_i n e
    split at z'
    · rename_i hl
      exact ⟨⟨n, e, hl⟩, z'⟩
    · exact z'.elim
  · exact z'.elim) (fun _ _ z => z) (of_run h k)
theorem forL {tg : Tg} (h : SimS b q) : ∀ {ds : List D} {ρ : Lo} {S : Sto} {nx : Lo → Sto → Prop} {rt : D → Sto → Prop} {xs : Str → Lo → Sto → Prop}, (PS.forP tg q ds ρ).run S nx rt xs → MS.forL tg b nx rt xs ds ρ S
  | [], _, _, _, _, _, z => z
  | d :: ds, ρ, S, nx, rt, xs, z => by
    unfold PS.forP at z
    split at z
    · rename_i ρ' e
      exact ⟨ρ', e, b.mono (fun ρ2 S2 z => forL h z) (fun _ _ z => z) (fun _ _ _ z => z) (h ρ' S _ rt xs (then_run z))⟩
    · exact z.elim
theorem forS {tg : Tg} (h0 : Sim t u) (h : SimS b q) : SimS (.forS t tg b) (.forS u tg q) := fun ρ S nx rt xs z => t.mono (fun ds S1 z => forL h z) (fun _ _ z => z) (of_run (f := fun ds => PS.forP tg q ds ρ) h0 z)
theorem whileL (h0 : Sim c k) (h : SimS b q) : ∀ {n : Nat} {ρ : Lo} {S : Sto} {nx : Lo → Sto → Prop} {rt : D → Sto → Prop} {xs : Str → Lo → Sto → Prop}, (PS.whileP k q n ρ).run S nx rt xs → MS.whileL c b nx rt xs n ρ S
  | 0, _, _, _, _, _, z => z.elim
  | n + 1, ρ, S, nx, rt, xs, z => by
    unfold PS.whileP at z
    refine c.mono (fun y S1 z => ?_) (fun _ _ z => z) (of_run h0 z)
    cases y with
    | false => exact z
    | true => exact b.mono (fun ρ2 S2 z => whileL h0 h z) (fun _ _ z => z) (fun _ _ _ z => z) (h ρ S1 _ rt xs (then_run z))
theorem whileS (h0 : Sim c k) (h : SimS b q) : SimS (.whileS c b) (.whileS k q) := fun ρ S nx rt xs z => ⟨100000, whileL h0 h z⟩
/-- a def -/
theorem run {N : List Str} {g : List D → Res} {ds : List D} (h : SimS a p) (hg : ∀ ds, g ds = (p.f (startD N ds)).res) {S : Sto} {Q : QD} {E : QX} (z : (C2.pure g).run ds S Q E) : a.run (startD N ds) S (fun _ S' => Q .none S') Q (fun x _ S' => E x S') := by
  refine h _ _ _ _ _ ?_
  have z' : (g ds).run S Q E := z
  rw [hg] at z'
  cases e : p.f (startD N ds) with
  | nx ρ => rw [e] at z'; exact z'
  | rt d => rw [e] at z'; exact z'
  | ex x ρ => rw [e] at z'; exact z'
  | no => rw [e] at z'; exact z'
end SimS
end EN

/-! == CG == -/
set_option Elab.async false
set_option linter.all false
set_option maxRecDepth 100000
set_option maxHeartbeats 4000000
set_option autoImplicit false
/-! CG: the defs without cells as functions on data (printed by gen.py). -/
namespace EN
open PySem PySem.Spec PyProof.Rows L2
def p_is_whole : PS :=
  (.ret (.andV (.call1 false (isiD "int") (.var 0)) (.andV (.notV (.call1 false (isiD "bool") (.var 0))) (.chain (cmD .le) (cmD .le) (.var 1) (.var 0) (.var 2)))))
def g_is_whole (ds : List D) : Res := (p_is_whole.f (startD ["value", "low", "high"] ds)).res
theorem sim_is_whole : SimS (m_is_whole) p_is_whole := (SimS.ret (Sim.andV (Sim.call1 Sim.var) (Sim.andV (Sim.notV (Sim.call1 Sim.var)) (Sim.chain Sim.var Sim.var Sim.var))))

def p_is_pair : PS :=
  (.seq (.ifS (.orB (.notB (.bool (.call1 false (isiD "tuple") (.var 1)))) (.orB (.bool (.op2 false false (cmD .ne) (.call1 false lenD (.var 1)) (.val (.int 2)))) (.notB (.bool (.call1 false allD (.lc (.items (.var 1)) [2] (tgN 2) (.val true) (.call 3 g_is_whole (.cons (.var 2) (.cons (.val (.int 0)) (.cons (.op2 false false (op2 .sub) (.var 0) (.val (.int 1))) .nil)))))))))) (.ret (.val (.bool false))) .skip)
    (.ret (.op2 false false (cmD .ne) (.op2 false false ixD (.var 1) (.val (.int 0))) (.op2 false false ixD (.var 1) (.val (.int 1))))))
def g_is_pair (ds : List D) : Res := (p_is_pair.f (startD ["many", "value", "one"] ds)).res
theorem sim_is_pair : SimS (m_is_pair (.pure g_is_whole)) p_is_pair := (SimS.seq (SimS.ifS (Sim.orB (Sim.notB (Sim.bool (Sim.call1 Sim.var))) (Sim.orB (Sim.bool (Sim.op2 (Sim.call1 Sim.var) Sim.val)) (Sim.notB (Sim.bool (Sim.call1 (Sim.lc (Sim.items Sim.var) Sim.val (Sim.call (Sim.cons Sim.var (Sim.cons Sim.val (Sim.cons (Sim.op2 Sim.var Sim.val) Sim.nil)))))))))) (SimS.ret Sim.val) SimS.skip) (SimS.ret (Sim.op2 (Sim.op2 Sim.var Sim.val) (Sim.op2 Sim.var Sim.val))))

def p_is_rising : PS :=
  (.ret (.call1 false allD (.lc (.zip (.cons (.var 0) (.cons (.slice false (.var 0) (.somI (.val (.int 1))) (.val none)) .nil))) [1, 2] (tgT [1, 2]) (.val true) (.op2 false false (cmD .lt) (.var 1) (.var 2)))))
def g_is_rising (ds : List D) : Res := (p_is_rising.f (startD ["value", "one", "other"] ds)).res
theorem sim_is_rising : SimS (m_is_rising) p_is_rising := (SimS.ret (Sim.call1 (Sim.lc (Sim.zip (Sim.cons Sim.var (Sim.cons (Sim.slice Sim.var (Sim.somI Sim.val) Sim.val) Sim.nil))) Sim.val (Sim.op2 Sim.var Sim.var))))

def p_follows : PS :=
  (.ret (.call1 false allD (.lc2 (.items (.var 0)) [1, 2, 3, 4] (tgT [1, 2]) (.items (.var 0)) [3, 4] (tgT [3, 4]) (.bool (.op2 false false (cmD .eq) (.var 3) (.var 2))) (.op2 false false (cmD .inn) (.tup (.cons (.var 1) (.cons (.var 4) .nil))) (.var 0)))))
def g_follows (ds : List D) : Res := (p_follows.f (startD ["pairs", "one", "other", "first", "more"] ds)).res
theorem sim_follows : SimS (m_follows) p_follows := (SimS.ret (Sim.call1 (Sim.lc2 (Sim.items Sim.var) (Sim.items Sim.var) (Sim.bool (Sim.op2 Sim.var Sim.var)) (Sim.op2 (Sim.tup (Sim.cons Sim.var (Sim.cons Sim.var Sim.nil))) Sim.var))))

def p_is_good : PS :=
  (.seq (.ifS (.orB (.notB (.bool (.call1 false (isiD "tuple") (.var 0)))) (.orB (.bool (.op2 false false (cmD .ne) (.call1 false lenD (.var 0)) (.val (.int 2)))) (.notB (.bool (.call 3 g_is_whole (.cons (.op2 false false ixD (.var 0) (.val (.int 0))) (.cons (.val (.int 1)) (.cons (.val (.int 6)) .nil)))))))) (.ret (.val (.bool false))) .skip)
    (.seq (.ifS (.orB (.notB (.bool (.call1 false (isiD "tuple") (.op2 false false ixD (.var 0) (.val (.int 1)))))) (.notB (.bool (.call1 false allD (.lc (.items (.op2 false false ixD (.var 0) (.val (.int 1)))) [1] (tgN 1) (.val true) (.call 2 g_is_pair (.cons (.op2 false false ixD (.var 0) (.val (.int 0))) (.cons (.var 1) .nil)))))))) (.ret (.val (.bool false))) .skip)
    (.ret (.andV (.call 1 g_is_rising (.cons (.op2 false false ixD (.var 0) (.val (.int 1))) .nil)) (.call 1 g_follows (.cons (.op2 false false ixD (.var 0) (.val (.int 1))) .nil))))))
def g_is_good (ds : List D) : Res := (p_is_good.f (startD ["value", "pair"] ds)).res
theorem sim_is_good : SimS (m_is_good (.pure g_is_whole) (.pure g_is_pair) (.pure g_is_rising) (.pure g_follows)) p_is_good := (SimS.seq (SimS.ifS (Sim.orB (Sim.notB (Sim.bool (Sim.call1 Sim.var))) (Sim.orB (Sim.bool (Sim.op2 (Sim.call1 Sim.var) Sim.val)) (Sim.notB (Sim.bool (Sim.call (Sim.cons (Sim.op2 Sim.var Sim.val) (Sim.cons Sim.val (Sim.cons Sim.val Sim.nil)))))))) (SimS.ret Sim.val) SimS.skip) (SimS.seq (SimS.ifS (Sim.orB (Sim.notB (Sim.bool (Sim.call1 (Sim.op2 Sim.var Sim.val)))) (Sim.notB (Sim.bool (Sim.call1 (Sim.lc (Sim.items (Sim.op2 Sim.var Sim.val)) Sim.val (Sim.call (Sim.cons (Sim.op2 Sim.var Sim.val) (Sim.cons Sim.var Sim.nil)))))))) (SimS.ret Sim.val) SimS.skip) (SimS.ret (Sim.andV (Sim.call (Sim.cons (Sim.op2 Sim.var Sim.val) Sim.nil)) (Sim.call (Sim.cons (Sim.op2 Sim.var Sim.val) Sim.nil))))))

def p_is_row : PS :=
  (.seq (.ifS (.orB (.notB (.bool (.call1 false (isiD "tuple") (.var 1)))) (.notB (.bool (.call1 false allD (.lc (.items (.var 1)) [2] (tgN 2) (.val true) (.call 3 g_is_whole (.cons (.var 2) (.cons (.val (.int 0)) (.cons (.op2 false false (op2 .sub) (.var 0) (.val (.int 1))) .nil))))))))) (.ret (.val (.bool false))) .skip)
    (.ret (.op2 false false (cmD .eq) (.call1 false sortedD (.var 1)) (.lstV (.rg1 (.var 0))))))
def g_is_row (ds : List D) : Res := (p_is_row.f (startD ["many", "value", "one"] ds)).res
theorem sim_is_row : SimS (m_is_row (.pure g_is_whole)) p_is_row := (SimS.seq (SimS.ifS (Sim.orB (Sim.notB (Sim.bool (Sim.call1 Sim.var))) (Sim.notB (Sim.bool (Sim.call1 (Sim.lc (Sim.items Sim.var) Sim.val (Sim.call (Sim.cons Sim.var (Sim.cons Sim.val (Sim.cons (Sim.op2 Sim.var Sim.val) Sim.nil))))))))) (SimS.ret Sim.val) SimS.skip) (SimS.ret (Sim.op2 (Sim.call1 Sim.var) (Sim.lstV (Sim.rg1 Sim.var)))))

def p_need_order : PS :=
  (.ifS (.notB (.bool (.call 1 g_is_good (.cons (.var 0) .nil)))) (.raise "InvalidOrder") .skip)
def g_need_order (ds : List D) : Res := (p_need_order.f (startD ["order"] ds)).res
theorem sim_need_order : SimS (m_need_order (.pure g_is_good)) p_need_order := (SimS.ifS (Sim.notB (Sim.bool (Sim.call (Sim.cons Sim.var Sim.nil)))) SimS.raise SimS.skip)

def p_need_row : PS :=
  (.ifS (.notB (.bool (.call 2 g_is_row (.cons (.op2 false false ixD (.var 0) (.val (.int 0))) (.cons (.var 1) .nil))))) (.raise "InvalidRow") .skip)
def g_need_row (ds : List D) : Res := (p_need_row.f (startD ["order", "row"] ds)).res
theorem sim_need_row : SimS (m_need_row (.pure g_is_row)) p_need_row := (SimS.ifS (Sim.notB (Sim.bool (Sim.call (Sim.cons (Sim.op2 Sim.var Sim.val) (Sim.cons Sim.var Sim.nil))))) SimS.raise SimS.skip)

def p_need_number : PS :=
  (.ifS (.notB (.bool (.call 3 g_is_whole (.cons (.var 0) (.cons (.var 1) (.cons (.var 2) .nil)))))) (.raise "InvalidNumber") .skip)
def g_need_number (ds : List D) : Res := (p_need_number.f (startD ["value", "low", "high"] ds)).res
theorem sim_need_number : SimS (m_need_number (.pure g_is_whole)) p_need_number := (SimS.ifS (Sim.notB (Sim.bool (Sim.call (Sim.cons Sim.var (Sim.cons Sim.var (Sim.cons Sim.var Sim.nil)))))) SimS.raise SimS.skip)

def p_closed : PS :=
  (.seq (.asg (.tup (.cons (.call1 false ssetD (.var 0)) (.cons (.lst .nil) .nil))) (tgT [1, 2]))
    (.seq (.whileS (.bool (.op2 false false (cmD .ne) (.var 1) (.var 2))) (.seq (.asg (.var 1) (tgN 2))
    (.seq (.asg (.lc2 (.items (.var 1)) [4, 5, 6, 7] (tgT [4, 5]) (.items (.var 1)) [6, 7] (tgT [6, 7]) (.bool (.op2 false false (cmD .eq) (.var 6) (.var 5))) (.tup (.cons (.var 4) (.cons (.var 7) .nil)))) (tgN 3))
    (.asg (.call1 false ssetD (.op2 false false (op2 .add) (.var 1) (.var 3))) (tgN 1)))))
    (.ret (.call1 false tupleD (.var 1)))))
def g_closed (ds : List D) : Res := (p_closed.f (startD ["pairs", "found", "before", "more", "one", "other", "first", "last"] ds)).res
theorem sim_closed : SimS (m_closed) p_closed := (SimS.seq (SimS.asg (Sim.tup (Sim.cons (Sim.call1 Sim.var) (Sim.cons (Sim.lst Sim.nil) Sim.nil)))) (SimS.seq (SimS.whileS (Sim.bool (Sim.op2 Sim.var Sim.var)) (SimS.seq (SimS.asg Sim.var) (SimS.seq (SimS.asg (Sim.lc2 (Sim.items Sim.var) (Sim.items Sim.var) (Sim.bool (Sim.op2 Sim.var Sim.var)) (Sim.tup (Sim.cons Sim.var (Sim.cons Sim.var Sim.nil))))) (SimS.asg (Sim.call1 (Sim.op2 Sim.var Sim.var)))))) (SimS.ret (Sim.call1 Sim.var))))

def p_mended_of : PS :=
  (.seq (.asg (.tup (.cons (.var 0) (.cons (.call 1 g_closed (.cons (.var 1) .nil)) .nil))) (tgN 2))
    (.ret (.ite (.bool (.call 1 g_is_good (.cons (.var 2) .nil))) (.var 2) (.val .none))))
def g_mended_of (ds : List D) : Res := (p_mended_of.f (startD ["many", "pairs", "found"] ds)).res
theorem sim_mended_of : SimS (m_mended_of (.pure g_closed) (.pure g_is_good)) p_mended_of := (SimS.seq (SimS.asg (Sim.tup (Sim.cons Sim.var (Sim.cons (Sim.call (Sim.cons Sim.var Sim.nil)) Sim.nil)))) (SimS.ret (Sim.ite (Sim.bool (Sim.call (Sim.cons Sim.var Sim.nil))) Sim.var Sim.val)))

def p_does_keep : PS :=
  (.ret (.call1 false allD (.lc (.items (.op2 false false ixD (.var 0) (.val (.int 1)))) [2, 3] (tgT [2, 3]) (.val true) (.op2 false false (cmD .lt) (.meth "seq" false indexD (.var 1) (.var 2)) (.meth "seq" false indexD (.var 1) (.var 3))))))
def g_does_keep (ds : List D) : Res := (p_does_keep.f (startD ["order", "row", "one", "other"] ds)).res
theorem sim_does_keep : SimS (m_does_keep) p_does_keep := (SimS.ret (Sim.call1 (Sim.lc (Sim.items (Sim.op2 Sim.var Sim.val)) Sim.val (Sim.op2 (Sim.meth Sim.var Sim.var) (Sim.meth Sim.var Sim.var)))))

def p_is_order : PS :=
  (.ret (.call 1 g_is_good (.cons (.var 0) .nil)))
def g_is_order (ds : List D) : Res := (p_is_order.f (startD ["value"] ds)).res
theorem sim_is_order : SimS (m_is_order (.pure g_is_good)) p_is_order := (SimS.ret (Sim.call (Sim.cons Sim.var Sim.nil)))

def p_mended : PS :=
  (.seq (.expr (.call 3 g_need_number (.cons (.var 0) (.cons (.val (.int 1)) (.cons (.val (.int 6)) .nil)))))
    (.seq (.ifS (.orB (.notB (.bool (.call1 false (isiD "tuple") (.var 1)))) (.orB (.bool (.op2 false false (cmD .gt) (.call1 false lenD (.var 1)) (.val (.int 30)))) (.notB (.bool (.call1 false allD (.lc (.items (.var 1)) [2] (tgN 2) (.val true) (.call 2 g_is_pair (.cons (.var 0) (.cons (.var 2) .nil))))))))) (.raise "InvalidPairs") .skip)
    (.ret (.call 2 g_mended_of (.cons (.var 0) (.cons (.var 1) .nil))))))
def g_mended (ds : List D) : Res := (p_mended.f (startD ["many", "pairs", "pair"] ds)).res
theorem sim_mended : SimS (m_mended (.pure g_need_number) (.pure g_is_pair) (.pure g_mended_of)) p_mended := (SimS.seq (SimS.expr (Sim.call (Sim.cons Sim.var (Sim.cons Sim.val (Sim.cons Sim.val Sim.nil))))) (SimS.seq (SimS.ifS (Sim.orB (Sim.notB (Sim.bool (Sim.call1 Sim.var))) (Sim.orB (Sim.bool (Sim.op2 (Sim.call1 Sim.var) Sim.val)) (Sim.notB (Sim.bool (Sim.call1 (Sim.lc (Sim.items Sim.var) Sim.val (Sim.call (Sim.cons Sim.var (Sim.cons Sim.var Sim.nil))))))))) SimS.raise SimS.skip) (SimS.ret (Sim.call (Sim.cons Sim.var (Sim.cons Sim.var Sim.nil))))))

def p_keeps : PS :=
  (.seq (.expr (.call 1 g_need_order (.cons (.var 0) .nil)))
    (.seq (.expr (.call 2 g_need_row (.cons (.var 0) (.cons (.var 1) .nil))))
    (.ret (.call 2 g_does_keep (.cons (.var 0) (.cons (.var 1) .nil))))))
def g_keeps (ds : List D) : Res := (p_keeps.f (startD ["order", "row"] ds)).res
theorem sim_keeps : SimS (m_keeps (.pure g_need_order) (.pure g_need_row) (.pure g_does_keep)) p_keeps := (SimS.seq (SimS.expr (Sim.call (Sim.cons Sim.var Sim.nil))) (SimS.seq (SimS.expr (Sim.call (Sim.cons Sim.var (Sim.cons Sim.var Sim.nil)))) (SimS.ret (Sim.call (Sim.cons Sim.var (Sim.cons Sim.var Sim.nil))))))

def p__law_is_whole : PS :=
  (.ret (.andV (.call1 false (isiD "int") (.var 0)) (.andV (.notV (.call1 false (isiD "bool") (.var 0))) (.chain (cmD .le) (cmD .le) (.var 1) (.var 0) (.var 2)))))
def g__law_is_whole (ds : List D) : Res := (p__law_is_whole.f (startD ["value", "low", "high"] ds)).res
theorem sim__law_is_whole : SimS (m__law_is_whole) p__law_is_whole := (SimS.ret (Sim.andV (Sim.call1 Sim.var) (Sim.andV (Sim.notV (Sim.call1 Sim.var)) (Sim.chain Sim.var Sim.var Sim.var))))

def p__law_truly : PS :=
  (.ret (.andV (.call1 false (isiD "bool") (.var 0)) (.op2 false false (cmD .eq) (.var 0) (.var 1))))
def g__law_truly (ds : List D) : Res := (p__law_truly.f (startD ["found", "due"] ds)).res
theorem sim__law_truly : SimS (m__law_truly) p__law_truly := (SimS.ret (Sim.andV (Sim.call1 Sim.var) (Sim.op2 Sim.var Sim.var)))

def p__law_is_pair : PS :=
  (.seq (.ifS (.orB (.notB (.bool (.call1 false (isiD "tuple") (.var 1)))) (.bool (.op2 false false (cmD .ne) (.call1 false lenD (.var 1)) (.val (.int 2))))) (.ret (.val (.bool false))) .skip)
    (.seq (.ifS (.bool (.op2 false false (cmD .ne) (.lc (.items (.var 1)) [2] (tgN 2) (.notB (.bool (.call 3 g__law_is_whole (.cons (.var 2) (.cons (.val (.int 0)) (.cons (.op2 false false (op2 .sub) (.var 0) (.val (.int 1))) .nil)))))) (.var 2)) (.lst .nil))) (.ret (.val (.bool false))) .skip)
    (.ret (.op2 false false (cmD .ne) (.op2 false false ixD (.var 1) (.val (.int 0))) (.op2 false false ixD (.var 1) (.val (.int 1)))))))
def g__law_is_pair (ds : List D) : Res := (p__law_is_pair.f (startD ["many", "value", "one"] ds)).res
theorem sim__law_is_pair : SimS (m__law_is_pair (.pure g__law_is_whole)) p__law_is_pair := (SimS.seq (SimS.ifS (Sim.orB (Sim.notB (Sim.bool (Sim.call1 Sim.var))) (Sim.bool (Sim.op2 (Sim.call1 Sim.var) Sim.val))) (SimS.ret Sim.val) SimS.skip) (SimS.seq (SimS.ifS (Sim.bool (Sim.op2 (Sim.lc (Sim.items Sim.var) (Sim.notB (Sim.bool (Sim.call (Sim.cons Sim.var (Sim.cons Sim.val (Sim.cons (Sim.op2 Sim.var Sim.val) Sim.nil)))))) Sim.var) (Sim.lst Sim.nil))) (SimS.ret Sim.val) SimS.skip) (SimS.ret (Sim.op2 (Sim.op2 Sim.var Sim.val) (Sim.op2 Sim.var Sim.val)))))

def p__law_closed : PS :=
  (.seq (.asg (.call1 false ssetD (.var 0)) (tgN 1))
    (.seq (.asg (.val .none) (tgN 2))
    (.seq (.whileS (.bool (.op2 false false (cmD .ne) (.var 1) (.var 2))) (.seq (.asg (.var 1) (tgN 2))
    (.seq (.forS (.items (.var 2)) (tgT [3, 4]) (.asg (.op2 false false (op2 .add) (.var 1) (.lc (.items (.var 2)) [5, 6] (tgT [5, 6]) (.bool (.op2 false false (cmD .eq) (.var 5) (.var 4))) (.tup (.cons (.var 3) (.cons (.var 6) .nil))))) (tgN 1)))
    (.asg (.call1 false ssetD (.var 1)) (tgN 1)))))
    (.ret (.call1 false tupleD (.var 1))))))
def g__law_closed (ds : List D) : Res := (p__law_closed.f (startD ["pairs", "found", "before", "one", "other", "first", "more"] ds)).res
theorem sim__law_closed : SimS (m__law_closed) p__law_closed := (SimS.seq (SimS.asg (Sim.call1 Sim.var)) (SimS.seq (SimS.asg Sim.val) (SimS.seq (SimS.whileS (Sim.bool (Sim.op2 Sim.var Sim.var)) (SimS.seq (SimS.asg Sim.var) (SimS.seq (SimS.forS (Sim.items Sim.var) (SimS.asg (Sim.op2 Sim.var (Sim.lc (Sim.items Sim.var) (Sim.bool (Sim.op2 Sim.var Sim.var)) (Sim.tup (Sim.cons Sim.var (Sim.cons Sim.var Sim.nil))))))) (SimS.asg (Sim.call1 Sim.var))))) (SimS.ret (Sim.call1 Sim.var)))))

def p__law_equals : PS :=
  (.seq (.asg (.lst .nil) (tgN 1))
    (.seq (.forS (.rng1 (.cons (.op2 false false ixD (.var 0) (.val (.int 0))) .nil)) (tgN 2) (.asg (.op2 false false (op2 .add) (.var 1) (.lc (.rng2 (.cons (.op2 false false (op2 .add) (.var 2) (.val (.int 1))) (.cons (.op2 false false ixD (.var 0) (.val (.int 0))) .nil))) [4] (tgN 4) (.val true) (.tup (.cons (.var 2) (.cons (.var 4) .nil))))) (tgN 1)))
    (.ret (.lc (.items (.var 1)) [3] (tgN 3) (.andB (.bool (.op2 false false (cmD .notin) (.var 3) (.op2 false false ixD (.var 0) (.val (.int 1))))) (.bool (.op2 false false (cmD .notin) (.tup (.cons (.op2 false false ixD (.var 3) (.val (.int 1))) (.cons (.op2 false false ixD (.var 3) (.val (.int 0))) .nil))) (.op2 false false ixD (.var 0) (.val (.int 1)))))) (.var 3)))))
def g__law_equals (ds : List D) : Res := (p__law_equals.f (startD ["order_so", "found", "one", "pair", "other"] ds)).res
theorem sim__law_equals : SimS (m__law_equals) p__law_equals := (SimS.seq (SimS.asg (Sim.lst Sim.nil)) (SimS.seq (SimS.forS (Sim.rng1 (Sim.cons (Sim.op2 Sim.var Sim.val) Sim.nil)) (SimS.asg (Sim.op2 Sim.var (Sim.lc (Sim.rng2 (Sim.cons (Sim.op2 Sim.var Sim.val) (Sim.cons (Sim.op2 Sim.var Sim.val) Sim.nil))) Sim.val (Sim.tup (Sim.cons Sim.var (Sim.cons Sim.var Sim.nil))))))) (SimS.ret (Sim.lc (Sim.items Sim.var) (Sim.andB (Sim.bool (Sim.op2 Sim.var (Sim.op2 Sim.var Sim.val))) (Sim.bool (Sim.op2 (Sim.tup (Sim.cons (Sim.op2 Sim.var Sim.val) (Sim.cons (Sim.op2 Sim.var Sim.val) Sim.nil))) (Sim.op2 Sim.var Sim.val)))) Sim.var))))

def p__law_keeps : PS :=
  (.ret (.op2 false false (cmD .eq) (.lc (.items (.op2 false false ixD (.var 0) (.val (.int 1)))) [2, 3] (tgT [2, 3]) (.bool (.op2 false false (cmD .gt) (.meth "seq" false indexD (.var 1) (.var 2)) (.meth "seq" false indexD (.var 1) (.var 3)))) (.val (.int 1))) (.lst .nil)))
def g__law_keeps (ds : List D) : Res := (p__law_keeps.f (startD ["order_so", "row_so", "one", "other"] ds)).res
theorem sim__law_keeps : SimS (m__law_keeps) p__law_keeps := (SimS.ret (Sim.op2 (Sim.lc (Sim.items (Sim.op2 Sim.var Sim.val)) (Sim.bool (Sim.op2 (Sim.meth Sim.var Sim.var) (Sim.meth Sim.var Sim.var))) Sim.val) (Sim.lst Sim.nil)))

def p__law_bad_orders : PS :=
  (.seq (.asg (.lst (.cons (.val .none) (.cons (.tup .nil) (.cons (.tup (.cons (.val (.int 0)) (.cons (.tup .nil) .nil))) (.cons (.tup (.cons (.val (.int 7)) (.cons (.tup .nil) .nil))) (.cons (.tup (.cons (.val (.bool true)) (.cons (.tup .nil) .nil))) (.cons (.tup (.cons (.val (.int 2)) (.cons (.lst .nil) .nil))) (.cons (.lst (.cons (.val (.int 2)) (.cons (.tup .nil) .nil))) (.cons (.tup (.cons (.val (.int 2)) (.cons (.tup (.cons (.tup (.cons (.val (.int 0)) (.cons (.val (.int 0)) .nil))) .nil)) .nil))) (.cons (.tup (.cons (.val (.int 2)) (.cons (.tup (.cons (.tup (.cons (.val (.int 0)) (.cons (.val (.int 2)) .nil))) .nil)) .nil))) (.cons (.tup (.cons (.val (.int 2)) (.cons (.tup (.cons (.tup (.cons (.val (.int 0)) (.cons (.val (.int 1)) .nil))) (.cons (.tup (.cons (.val (.int 1)) (.cons (.val (.int 0)) .nil))) .nil))) .nil))) .nil))))))))))) (tgN 0))
    (.seq (.asg (.op2 false false (op2 .add) (.var 0) (.lst (.cons (.tup (.cons (.val (.int 3)) (.cons (.tup (.cons (.tup (.cons (.val (.int 0)) (.cons (.val (.int 1)) .nil))) (.cons (.tup (.cons (.val (.int 1)) (.cons (.val (.int 2)) .nil))) .nil))) .nil))) (.cons (.tup (.cons (.val (.int 2)) (.cons (.tup (.cons (.tup (.cons (.val (.int 0)) (.cons (.val (.int 1)) .nil))) (.cons (.tup (.cons (.val (.int 0)) (.cons (.val (.int 1)) .nil))) .nil))) .nil))) (.cons (.tup (.cons (.val (.int 3)) (.cons (.tup (.cons (.tup (.cons (.val (.int 0)) (.cons (.val (.int 2)) .nil))) (.cons (.tup (.cons (.val (.int 0)) (.cons (.val (.int 1)) .nil))) .nil))) .nil))) (.cons (.tup (.cons (.val (.int 2)) (.cons (.tup (.cons (.tup (.cons (.val (.int 0)) (.cons (.val (.bool true)) .nil))) .nil)) .nil))) (.cons (.tup (.cons (.val (.int 2)) (.cons (.tup (.cons (.tup (.cons (.val (.int 0)) .nil)) .nil)) .nil))) (.cons (.val (.str "2")) (.cons (.val (.int 2)) .nil))))))))) (tgN 0))
    (.ret (.op2 false false (op2 .add) (.var 0) (.lst (.cons (.tup (.cons (.val (.int 2)) (.cons (.tup .nil) (.cons (.tup .nil) .nil)))) (.cons (.tup (.cons (.val (.str "2")) (.cons (.tup .nil) .nil))) (.cons (.tup (.cons (.val (.int 2)) (.cons (.tup (.cons (.lst (.cons (.val (.int 0)) (.cons (.val (.int 1)) .nil))) .nil)) .nil))) (.cons (.tup (.cons (.val (.int 2)) (.cons (.tup (.cons (.tup (.cons (.val (.int 0)) (.cons (.val (.str "1")) .nil))) .nil)) .nil))) (.cons (.tup (.cons (.val (.int 2)) (.cons (.val .none) .nil))) (.cons (.tup (.cons (.val (.int 2)) (.cons (.tup (.cons (.tup (.cons (.val (.int (-1))) (.cons (.val (.int 0)) .nil))) .nil)) .nil))) .nil)))))))))))
def g__law_bad_orders (ds : List D) : Res := (p__law_bad_orders.f (startD ["some"] ds)).res
theorem sim__law_bad_orders : SimS (m__law_bad_orders) p__law_bad_orders := (SimS.seq (SimS.asg (Sim.lst (Sim.cons Sim.val (Sim.cons (Sim.tup Sim.nil) (Sim.cons (Sim.tup (Sim.cons Sim.val (Sim.cons (Sim.tup Sim.nil) Sim.nil))) (Sim.cons (Sim.tup (Sim.cons Sim.val (Sim.cons (Sim.tup Sim.nil) Sim.nil))) (Sim.cons (Sim.tup (Sim.cons Sim.val (Sim.cons (Sim.tup Sim.nil) Sim.nil))) (Sim.cons (Sim.tup (Sim.cons Sim.val (Sim.cons (Sim.lst Sim.nil) Sim.nil))) (Sim.cons (Sim.lst (Sim.cons Sim.val (Sim.cons (Sim.tup Sim.nil) Sim.nil))) (Sim.cons (Sim.tup (Sim.cons Sim.val (Sim.cons (Sim.tup (Sim.cons (Sim.tup (Sim.cons Sim.val (Sim.cons Sim.val Sim.nil))) Sim.nil)) Sim.nil))) (Sim.cons (Sim.tup (Sim.cons Sim.val (Sim.cons (Sim.tup (Sim.cons (Sim.tup (Sim.cons Sim.val (Sim.cons Sim.val Sim.nil))) Sim.nil)) Sim.nil))) (Sim.cons (Sim.tup (Sim.cons Sim.val (Sim.cons (Sim.tup (Sim.cons (Sim.tup (Sim.cons Sim.val (Sim.cons Sim.val Sim.nil))) (Sim.cons (Sim.tup (Sim.cons Sim.val (Sim.cons Sim.val Sim.nil))) Sim.nil))) Sim.nil))) Sim.nil)))))))))))) (SimS.seq (SimS.asg (Sim.op2 Sim.var (Sim.lst (Sim.cons (Sim.tup (Sim.cons Sim.val (Sim.cons (Sim.tup (Sim.cons (Sim.tup (Sim.cons Sim.val (Sim.cons Sim.val Sim.nil))) (Sim.cons (Sim.tup (Sim.cons Sim.val (Sim.cons Sim.val Sim.nil))) Sim.nil))) Sim.nil))) (Sim.cons (Sim.tup (Sim.cons Sim.val (Sim.cons (Sim.tup (Sim.cons (Sim.tup (Sim.cons Sim.val (Sim.cons Sim.val Sim.nil))) (Sim.cons (Sim.tup (Sim.cons Sim.val (Sim.cons Sim.val Sim.nil))) Sim.nil))) Sim.nil))) (Sim.cons (Sim.tup (Sim.cons Sim.val (Sim.cons (Sim.tup (Sim.cons (Sim.tup (Sim.cons Sim.val (Sim.cons Sim.val Sim.nil))) (Sim.cons (Sim.tup (Sim.cons Sim.val (Sim.cons Sim.val Sim.nil))) Sim.nil))) Sim.nil))) (Sim.cons (Sim.tup (Sim.cons Sim.val (Sim.cons (Sim.tup (Sim.cons (Sim.tup (Sim.cons Sim.val (Sim.cons Sim.val Sim.nil))) Sim.nil)) Sim.nil))) (Sim.cons (Sim.tup (Sim.cons Sim.val (Sim.cons (Sim.tup (Sim.cons (Sim.tup (Sim.cons Sim.val Sim.nil)) Sim.nil)) Sim.nil))) (Sim.cons Sim.val (Sim.cons Sim.val Sim.nil)))))))))) (SimS.ret (Sim.op2 Sim.var (Sim.lst (Sim.cons (Sim.tup (Sim.cons Sim.val (Sim.cons (Sim.tup Sim.nil) (Sim.cons (Sim.tup Sim.nil) Sim.nil)))) (Sim.cons (Sim.tup (Sim.cons Sim.val (Sim.cons (Sim.tup Sim.nil) Sim.nil))) (Sim.cons (Sim.tup (Sim.cons Sim.val (Sim.cons (Sim.tup (Sim.cons (Sim.lst (Sim.cons Sim.val (Sim.cons Sim.val Sim.nil))) Sim.nil)) Sim.nil))) (Sim.cons (Sim.tup (Sim.cons Sim.val (Sim.cons (Sim.tup (Sim.cons (Sim.tup (Sim.cons Sim.val (Sim.cons Sim.val Sim.nil))) Sim.nil)) Sim.nil))) (Sim.cons (Sim.tup (Sim.cons Sim.val (Sim.cons Sim.val Sim.nil))) (Sim.cons (Sim.tup (Sim.cons Sim.val (Sim.cons (Sim.tup (Sim.cons (Sim.tup (Sim.cons Sim.val (Sim.cons Sim.val Sim.nil))) Sim.nil)) Sim.nil))) Sim.nil)))))))))))

def p__law_bad_rows : PS :=
  (.ret (.lst (.cons (.val .none) (.cons (.tup .nil) (.cons (.lstV (.rg1 (.var 0))) (.cons (.op2 false false (op2 .mul) (.tup (.cons (.val (.int 0)) .nil)) (.op2 false false (op2 .add) (.var 0) (.val (.int 1)))) (.cons (.tupV (.rg2 (.val (.int 1)) (.op2 false false (op2 .add) (.var 0) (.val (.int 1))))) (.cons (.op2 false false (op2 .add) (.tupV (.rg1 (.var 0))) (.tup (.cons (.val (.int 0)) .nil))) (.cons (.op2 false false (op2 .mul) (.tup (.cons (.val (.bool true)) .nil)) (.var 0)) (.cons (.val (.str "0")) (.cons (.val (.int 0)) .nil)))))))))))
def g__law_bad_rows (ds : List D) : Res := (p__law_bad_rows.f (startD ["many"] ds)).res
theorem sim__law_bad_rows : SimS (m__law_bad_rows) p__law_bad_rows := (SimS.ret (Sim.lst (Sim.cons Sim.val (Sim.cons (Sim.tup Sim.nil) (Sim.cons (Sim.lstV (Sim.rg1 Sim.var)) (Sim.cons (Sim.op2 (Sim.tup (Sim.cons Sim.val Sim.nil)) (Sim.op2 Sim.var Sim.val)) (Sim.cons (Sim.tupV (Sim.rg2 Sim.val (Sim.op2 Sim.var Sim.val))) (Sim.cons (Sim.op2 (Sim.tupV (Sim.rg1 Sim.var)) (Sim.tup (Sim.cons Sim.val Sim.nil))) (Sim.cons (Sim.op2 (Sim.tup (Sim.cons Sim.val Sim.nil)) Sim.var) (Sim.cons Sim.val (Sim.cons Sim.val Sim.nil)))))))))))

def p__law_permutations : PS :=
  (.seq (.asg (.lst (.cons (.tup .nil) .nil)) (tgN 1))
    (.seq (.forS (.rng1 (.cons (.var 0) .nil)) (tgN 2) (.seq (.asg (.lst .nil) (tgN 3))
    (.seq (.forS (.items (.var 1)) (tgN 4) (.asg (.op2 false false (op2 .add) (.var 3) (.lc (.rng1 (.cons (.var 0) .nil)) [5] (tgN 5) (.bool (.op2 false false (cmD .notin) (.var 5) (.var 4))) (.op2 false false (op2 .add) (.var 4) (.tup (.cons (.var 5) .nil))))) (tgN 3)))
    (.asg (.var 3) (tgN 1)))))
    (.ret (.var 1))))
def g__law_permutations (ds : List D) : Res := (p__law_permutations.f (startD ["many", "found", "turn", "longer", "row_so", "thing"] ds)).res
theorem sim__law_permutations : SimS (m__law_permutations) p__law_permutations := (SimS.seq (SimS.asg (Sim.lst (Sim.cons (Sim.tup Sim.nil) Sim.nil))) (SimS.seq (SimS.forS (Sim.rng1 (Sim.cons Sim.var Sim.nil)) (SimS.seq (SimS.asg (Sim.lst Sim.nil)) (SimS.seq (SimS.forS (Sim.items Sim.var) (SimS.asg (Sim.op2 Sim.var (Sim.lc (Sim.rng1 (Sim.cons Sim.var Sim.nil)) (Sim.bool (Sim.op2 Sim.var Sim.var)) (Sim.op2 Sim.var (Sim.tup (Sim.cons Sim.var Sim.nil))))))) (SimS.asg Sim.var)))) (SimS.ret Sim.var)))

def p__law_keeping : PS :=
  (.ret (.lc (.items (.call 1 g__law_permutations (.cons (.op2 false false ixD (.var 0) (.val (.int 0))) .nil))) [1] (tgN 1) (.bool (.call 2 g__law_keeps (.cons (.var 0) (.cons (.var 1) .nil)))) (.var 1)))
def g__law_keeping (ds : List D) : Res := (p__law_keeping.f (startD ["order_so", "row_so"] ds)).res
theorem sim__law_keeping : SimS (m__law_keeping (.pure g__law_permutations) (.pure g__law_keeps)) p__law_keeping := (SimS.ret (Sim.lc (Sim.items (Sim.call (Sim.cons (Sim.op2 Sim.var Sim.val) Sim.nil))) (Sim.bool (Sim.call (Sim.cons Sim.var (Sim.cons Sim.var Sim.nil)))) Sim.var))

def p__law_gaps : PS :=
  (.ret (.lc (.items (.call 1 g__law_equals (.cons (.var 0) .nil))) [2, 3] (tgT [2, 3]) (.val true) (.call1 false absD (.op2 false false (op2 .sub) (.meth "seq" false indexD (.var 1) (.var 2)) (.meth "seq" false indexD (.var 1) (.var 3))))))
def g__law_gaps (ds : List D) : Res := (p__law_gaps.f (startD ["order_so", "row_so", "one", "other"] ds)).res
theorem sim__law_gaps : SimS (m__law_gaps (.pure g__law_equals)) p__law_gaps := (SimS.ret (Sim.lc (Sim.items (Sim.call (Sim.cons Sim.var Sim.nil))) Sim.val (Sim.call1 (Sim.op2 (Sim.meth Sim.var Sim.var) (Sim.meth Sim.var Sim.var)))))

def p__law_spread : PS :=
  (.ret (.call1 false maxD (.op2 false false (op2 .add) (.lst (.cons (.val (.int 0)) .nil)) (.call 2 g__law_gaps (.cons (.var 0) (.cons (.var 1) .nil))))))
def g__law_spread (ds : List D) : Res := (p__law_spread.f (startD ["order_so", "row_so"] ds)).res
theorem sim__law_spread : SimS (m__law_spread (.pure g__law_gaps)) p__law_spread := (SimS.ret (Sim.call1 (Sim.op2 (Sim.lst (Sim.cons Sim.val Sim.nil)) (Sim.call (Sim.cons Sim.var (Sim.cons Sim.var Sim.nil))))))

def p_is_lot : PS :=
  (.ret (.andV (.call1 false (isiD "tuple") (.var 1)) (.andV (.call1 false allD (.lc (.items (.var 1)) [2] (tgN 2) (.val true) (.call 3 g_is_whole (.cons (.var 2) (.cons (.val (.int 0)) (.cons (.op2 false false (op2 .sub) (.var 0) (.val (.int 1))) .nil)))))) (.call 1 g_is_rising (.cons (.var 1) .nil)))))
def g_is_lot (ds : List D) : Res := (p_is_lot.f (startD ["many", "value", "one"] ds)).res
theorem sim_is_lot : SimS (m_is_lot (.pure g_is_whole) (.pure g_is_rising)) p_is_lot := (SimS.ret (Sim.andV (Sim.call1 Sim.var) (Sim.andV (Sim.call1 (Sim.lc (Sim.items Sim.var) Sim.val (Sim.call (Sim.cons Sim.var (Sim.cons Sim.val (Sim.cons (Sim.op2 Sim.var Sim.val) Sim.nil)))))) (Sim.call (Sim.cons Sim.var Sim.nil)))))

def p_need_thing : PS :=
  (.ifS (.notB (.bool (.call 3 g_is_whole (.cons (.var 1) (.cons (.val (.int 0)) (.cons (.op2 false false (op2 .sub) (.var 0) (.val (.int 1))) .nil)))))) (.raise "InvalidThing") .skip)
def g_need_thing (ds : List D) : Res := (p_need_thing.f (startD ["many", "thing"] ds)).res
theorem sim_need_thing : SimS (m_need_thing (.pure g_is_whole)) p_need_thing := (SimS.ifS (Sim.notB (Sim.bool (Sim.call (Sim.cons Sim.var (Sim.cons Sim.val (Sim.cons (Sim.op2 Sim.var Sim.val) Sim.nil)))))) SimS.raise SimS.skip)

def p_all_lots : PS :=
  (.seq (.asg (.lst (.cons (.tup .nil) .nil)) (tgN 1))
    (.seq (.forS (.rng1 (.cons (.var 0) .nil)) (tgN 2) (.asg (.op2 false false (op2 .add) (.var 1) (.lc (.items (.var 1)) [3] (tgN 3) (.val true) (.op2 false false (op2 .add) (.var 3) (.tup (.cons (.var 2) .nil))))) (tgN 1)))
    (.ret (.call1 false sortedD (.var 1)))))
def g_all_lots (ds : List D) : Res := (p_all_lots.f (startD ["many", "found", "thing", "lot"] ds)).res
theorem sim_all_lots : SimS (m_all_lots) p_all_lots := (SimS.seq (SimS.asg (Sim.lst (Sim.cons (Sim.tup Sim.nil) Sim.nil))) (SimS.seq (SimS.forS (Sim.rng1 (Sim.cons Sim.var Sim.nil)) (SimS.asg (Sim.op2 Sim.var (Sim.lc (Sim.items Sim.var) Sim.val (Sim.op2 Sim.var (Sim.tup (Sim.cons Sim.var Sim.nil))))))) (SimS.ret (Sim.call1 Sim.var))))

def p__law_bad_things : PS :=
  (.ret (.lst (.cons (.val (.int (-1))) (.cons (.var 0) (.cons (.val (.bool true)) (.cons (.val .none) (.cons (.val (.str "0")) (.cons (.tup (.cons (.val (.int 0)) .nil)) .nil))))))))
def g__law_bad_things (ds : List D) : Res := (p__law_bad_things.f (startD ["many"] ds)).res
theorem sim__law_bad_things : SimS (m__law_bad_things) p__law_bad_things := (SimS.ret (Sim.lst (Sim.cons Sim.val (Sim.cons Sim.var (Sim.cons Sim.val (Sim.cons Sim.val (Sim.cons Sim.val (Sim.cons (Sim.tup (Sim.cons Sim.val Sim.nil)) Sim.nil))))))))

def p__law_bar : PS :=
  (.seq (.ifS (.orB (.bool (.op2 false false (cmD .lt) (.call1 false lenD (.var 1)) (.val (.int 2)))) (.bool (.op2 false false (cmD .ne) (.lc (.items (.var 1)) [4] (tgN 4) (.bool (.op2 false false (cmD .notin) (.tup (.cons (.op2 false false ixD (.var 1) (.val (.int 0))) (.cons (.var 4) .nil))) (.var 0))) (.val (.int 1))) (.lst .nil)))) (.ret (.val .none)) .skip)
    (.seq (.par (.cons (.call1 false maxD (.lc (.items (.var 1)) [4] (tgN 4) (.val true) (.call1 false maxD (.lc (.items (.var 1)) [5] (tgN 5) (.val true) (.op2 false false ixD (.var 0) (.tup (.cons (.var 4) (.cons (.var 5) .nil)))))))) (.cons (.val (.int 0)) .nil)) 2 3)
    (.seq (.whileS (.bool (.op2 false false (cmD .lt) (.op2 false false (op2 .mul) (.var 3) (.var 2)) (.op2 false false (op2 .sub) (.call1 false lenD (.var 1)) (.val (.int 1))))) (.asg (.op2 false false (op2 .add) (.var 3) (.val (.int 1))) (tgN 3)))
    (.ret (.var 3)))))
def g__law_bar (ds : List D) : Res := (p__law_bar.f (startD ["ways", "lot", "far", "size", "one", "other"] ds)).res
theorem sim__law_bar : SimS (m__law_bar) p__law_bar := (SimS.seq (SimS.ifS (Sim.orB (Sim.bool (Sim.op2 (Sim.call1 Sim.var) Sim.val)) (Sim.bool (Sim.op2 (Sim.lc (Sim.items Sim.var) (Sim.bool (Sim.op2 (Sim.tup (Sim.cons (Sim.op2 Sim.var Sim.val) (Sim.cons Sim.var Sim.nil))) Sim.var)) Sim.val) (Sim.lst Sim.nil)))) (SimS.ret Sim.val) SimS.skip) (SimS.seq (SimS.par (Sim.cons (Sim.call1 (Sim.lc (Sim.items Sim.var) Sim.val (Sim.call1 (Sim.lc (Sim.items Sim.var) Sim.val (Sim.op2 Sim.var (Sim.tup (Sim.cons Sim.var (Sim.cons Sim.var Sim.nil)))))))) (Sim.cons Sim.val Sim.nil))) (SimS.seq (SimS.whileS (Sim.bool (Sim.op2 (Sim.op2 Sim.var Sim.var) (Sim.op2 (Sim.call1 Sim.var) Sim.val))) (SimS.asg (Sim.op2 Sim.var Sim.val))) (SimS.ret Sim.var))))

def p__law_lots : PS :=
  (.seq (.asg (.lst (.cons (.tup .nil) .nil)) (tgN 1))
    (.seq (.forS (.rng1 (.cons (.var 0) .nil)) (tgN 2) (.asg (.op2 false false (op2 .add) (.var 1) (.lc (.items (.var 1)) [3] (tgN 3) (.val true) (.op2 false false (op2 .add) (.var 3) (.tup (.cons (.var 2) .nil))))) (tgN 1)))
    (.ret (.call1 false sortedD (.var 1)))))
def g__law_lots (ds : List D) : Res := (p__law_lots.f (startD ["many", "found", "thing", "lot"] ds)).res
theorem sim__law_lots : SimS (m__law_lots) p__law_lots := (SimS.seq (SimS.asg (Sim.lst (Sim.cons (Sim.tup Sim.nil) Sim.nil))) (SimS.seq (SimS.forS (Sim.rng1 (Sim.cons Sim.var Sim.nil)) (SimS.asg (Sim.op2 Sim.var (Sim.lc (Sim.items Sim.var) Sim.val (Sim.op2 Sim.var (Sim.tup (Sim.cons Sim.var Sim.nil))))))) (SimS.ret (Sim.call1 Sim.var))))

def p_need_unlike : PS :=
  (.seq (.expr (.call 2 g_need_thing (.cons (.var 0) (.cons (.var 1) .nil))))
    (.seq (.expr (.call 2 g_need_thing (.cons (.var 0) (.cons (.var 2) .nil))))
    (.ifS (.bool (.op2 false false (cmD .eq) (.var 1) (.var 2))) (.raise "InvalidThing") .skip)))
def g_need_unlike (ds : List D) : Res := (p_need_unlike.f (startD ["many", "one", "other"] ds)).res
theorem sim_need_unlike : SimS (m_need_unlike (.pure g_need_thing)) p_need_unlike := (SimS.seq (SimS.expr (Sim.call (Sim.cons Sim.var (Sim.cons Sim.var Sim.nil)))) (SimS.seq (SimS.expr (Sim.call (Sim.cons Sim.var (Sim.cons Sim.var Sim.nil)))) (SimS.ifS (Sim.bool (Sim.op2 Sim.var Sim.var)) SimS.raise SimS.skip)))

def p__law_exchanges : PS :=
  (.seq (.asg (.val (.int 0)) (tgN 2))
    (.seq (.forS (.rng1 (.cons (.call1 false lenD (.var 0)) .nil)) (tgN 3) (.asg (.op2 false false (op2 .add) (.var 2) (.call1 false lenD (.lc (.items (.slice false (.var 0) (.somI (.op2 false false (op2 .add) (.var 3) (.val (.int 1)))) (.val none))) [4] (tgN 4) (.bool (.op2 false false (cmD .lt) (.meth "seq" false indexD (.var 1) (.var 4)) (.meth "seq" false indexD (.var 1) (.op2 false false ixD (.var 0) (.var 3))))) (.val (.int 1))))) (tgN 2)))
    (.ret (.var 2))))
def g__law_exchanges (ds : List D) : Res := (p__law_exchanges.f (startD ["one", "other", "found", "at", "later"] ds)).res
theorem sim__law_exchanges : SimS (m__law_exchanges) p__law_exchanges := (SimS.seq (SimS.asg Sim.val) (SimS.seq (SimS.forS (Sim.rng1 (Sim.cons (Sim.call1 Sim.var) Sim.nil)) (SimS.asg (Sim.op2 Sim.var (Sim.call1 (Sim.lc (Sim.items (Sim.slice Sim.var (Sim.somI (Sim.op2 Sim.var Sim.val)) Sim.val)) (Sim.bool (Sim.op2 (Sim.meth Sim.var Sim.var) (Sim.meth Sim.var (Sim.op2 Sim.var Sim.var)))) Sim.val))))) (SimS.ret Sim.var)))

def p_need_few : PS :=
  (.ifS (.bool (.op2 false false (cmD .gt) (.op2 false false ixD (.var 0) (.val (.int 0))) (.val (.int 5)))) (.raiseI "TooMany" (.val (.int 5))) .skip)
def g_need_few (ds : List D) : Res := (p_need_few.f (startD ["order"] ds)).res
theorem sim_need_few : SimS (m_need_few) p_need_few := (SimS.ifS (Sim.bool (Sim.op2 (Sim.op2 Sim.var Sim.val) Sim.val)) (SimS.raiseI Sim.val) SimS.skip)

def p__law_within : PS :=
  (.ret (.op2 false false (cmD .eq) (.lc (.items (.op2 false false ixD (.var 0) (.val (.int 1)))) [2] (tgN 2) (.bool (.op2 false false (cmD .notin) (.var 2) (.op2 false false ixD (.var 1) (.val (.int 1))))) (.var 2)) (.lst .nil)))
def g__law_within (ds : List D) : Res := (p__law_within.f (startD ["order_so", "other", "pair"] ds)).res
theorem sim__law_within : SimS (m__law_within) p__law_within := (SimS.ret (Sim.op2 (Sim.lc (Sim.items (Sim.op2 Sim.var Sim.val)) (Sim.bool (Sim.op2 Sim.var (Sim.op2 Sim.var Sim.val))) Sim.var) (Sim.lst Sim.nil)))

def p__law_far : PS :=
  (.ret (.call1 false lenD (.lc (.items (.call 2 g__law_gaps (.cons (.var 0) (.cons (.var 1) .nil)))) [3] (tgN 3) (.bool (.op2 false false (cmD .gt) (.var 3) (.var 2))) (.var 3))))
def g__law_far (ds : List D) : Res := (p__law_far.f (startD ["order_so", "row_so", "most", "gap"] ds)).res
theorem sim__law_far : SimS (m__law_far (.pure g__law_gaps)) p__law_far := (SimS.ret (Sim.call1 (Sim.lc (Sim.items (Sim.call (Sim.cons Sim.var (Sim.cons Sim.var Sim.nil)))) (Sim.bool (Sim.op2 Sim.var Sim.var)) Sim.var)))

def p_need_lot : PS :=
  (.ifS (.notB (.bool (.call 2 g_is_lot (.cons (.op2 false false ixD (.var 0) (.val (.int 0))) (.cons (.var 1) .nil))))) (.raise "InvalidLot") .skip)
def g_need_lot (ds : List D) : Res := (p_need_lot.f (startD ["order", "lot"] ds)).res
theorem sim_need_lot : SimS (m_need_lot (.pure g_is_lot)) p_need_lot := (SimS.ifS (Sim.notB (Sim.bool (Sim.call (Sim.cons (Sim.op2 Sim.var Sim.val) (Sim.cons Sim.var Sim.nil))))) SimS.raise SimS.skip)

def p_turned_of : PS :=
  (.ret (.tup (.cons (.op2 false false ixD (.var 0) (.val (.int 0))) (.cons (.call1 false tupleD (.call1 false sortedD (.lc (.items (.op2 false false ixD (.var 0) (.val (.int 1)))) [1, 2] (tgT [1, 2]) (.val true) (.tup (.cons (.var 2) (.cons (.var 1) .nil)))))) .nil))))
def g_turned_of (ds : List D) : Res := (p_turned_of.f (startD ["order", "one", "other"] ds)).res
theorem sim_turned_of : SimS (m_turned_of) p_turned_of := (SimS.ret (Sim.tup (Sim.cons (Sim.op2 Sim.var Sim.val) (Sim.cons (Sim.call1 (Sim.call1 (Sim.lc (Sim.items (Sim.op2 Sim.var Sim.val)) Sim.val (Sim.tup (Sim.cons Sim.var (Sim.cons Sim.var Sim.nil)))))) Sim.nil))))

def p_both : PS :=
  (.seq (.asg (.op2 false false ixD (.var 0) (.val (.int 0))) (tgN 3))
    (.seq (.ifS (.bool (.op2 false false (cmD .gt) (.op2 false false (op2 .add) (.var 3) (.op2 false false ixD (.var 1) (.val (.int 0)))) (.val (.int 6)))) (.raiseI "TooMany" (.val (.int 6))) .skip)
    (.seq (.asg (.op2 false false (op2 .add) (.call1 false listD (.op2 false false ixD (.var 0) (.val (.int 1)))) (.lc (.items (.op2 false false ixD (.var 1) (.val (.int 1)))) [5, 6] (tgT [5, 6]) (.val true) (.tup (.cons (.op2 false false (op2 .add) (.var 5) (.var 3)) (.cons (.op2 false false (op2 .add) (.var 6) (.var 3)) .nil))))) (tgN 4))
    (.seq (.ifS (.bool (.var 2)) (.asg (.op2 false false (op2 .add) (.var 4) (.lc2 (.rng1 (.cons (.var 3) .nil)) [5, 6] (tgN 5) (.rng1 (.cons (.op2 false false ixD (.var 1) (.val (.int 0))) .nil)) [6] (tgN 6) (.val true) (.tup (.cons (.var 5) (.cons (.op2 false false (op2 .add) (.var 6) (.var 3)) .nil))))) (tgN 4)) .skip)
    (.ret (.tup (.cons (.op2 false false (op2 .add) (.var 3) (.op2 false false ixD (.var 1) (.val (.int 0)))) (.cons (.call1 false tupleD (.call1 false sortedD (.var 4))) .nil))))))))
def g_both (ds : List D) : Res := (p_both.f (startD ["one", "other", "over", "many", "pairs", "here", "there"] ds)).res
theorem sim_both : SimS (m_both) p_both := (SimS.seq (SimS.asg (Sim.op2 Sim.var Sim.val)) (SimS.seq (SimS.ifS (Sim.bool (Sim.op2 (Sim.op2 Sim.var (Sim.op2 Sim.var Sim.val)) Sim.val)) (SimS.raiseI Sim.val) SimS.skip) (SimS.seq (SimS.asg (Sim.op2 (Sim.call1 (Sim.op2 Sim.var Sim.val)) (Sim.lc (Sim.items (Sim.op2 Sim.var Sim.val)) Sim.val (Sim.tup (Sim.cons (Sim.op2 Sim.var Sim.var) (Sim.cons (Sim.op2 Sim.var Sim.var) Sim.nil)))))) (SimS.seq (SimS.ifS (Sim.bool Sim.var) (SimS.asg (Sim.op2 Sim.var (Sim.lc2 (Sim.rng1 (Sim.cons Sim.var Sim.nil)) (Sim.rng1 (Sim.cons (Sim.op2 Sim.var Sim.val) Sim.nil)) Sim.val (Sim.tup (Sim.cons Sim.var (Sim.cons (Sim.op2 Sim.var Sim.var) Sim.nil)))))) SimS.skip) (SimS.ret (Sim.tup (Sim.cons (Sim.op2 Sim.var (Sim.op2 Sim.var Sim.val)) (Sim.cons (Sim.call1 (Sim.call1 Sim.var)) Sim.nil))))))))

def p_part_of : PS :=
  (.seq (.asg (.lc (.items (.op2 false false ixD (.var 0) (.val (.int 1)))) [3, 4] (tgT [3, 4]) (.andB (.bool (.op2 false false (cmD .inn) (.var 3) (.var 1))) (.bool (.op2 false false (cmD .inn) (.var 4) (.var 1)))) (.tup (.cons (.meth "seq" false indexD (.var 1) (.var 3)) (.cons (.meth "seq" false indexD (.var 1) (.var 4)) .nil)))) (tgN 2))
    (.ret (.tup (.cons (.call1 false lenD (.var 1)) (.cons (.call1 false tupleD (.call1 false sortedD (.var 2))) .nil)))))
def g_part_of (ds : List D) : Res := (p_part_of.f (startD ["order", "lot", "pairs", "one", "other"] ds)).res
theorem sim_part_of : SimS (m_part_of) p_part_of := (SimS.seq (SimS.asg (Sim.lc (Sim.items (Sim.op2 Sim.var Sim.val)) (Sim.andB (Sim.bool (Sim.op2 Sim.var Sim.var)) (Sim.bool (Sim.op2 Sim.var Sim.var))) (Sim.tup (Sim.cons (Sim.meth Sim.var Sim.var) (Sim.cons (Sim.meth Sim.var Sim.var) Sim.nil))))) (SimS.ret (Sim.tup (Sim.cons (Sim.call1 Sim.var) (Sim.cons (Sim.call1 (Sim.call1 Sim.var)) Sim.nil)))))

def p_turned : PS :=
  (.seq (.expr (.call 1 g_need_order (.cons (.var 0) .nil)))
    (.ret (.call 1 g_turned_of (.cons (.var 0) .nil))))
def g_turned (ds : List D) : Res := (p_turned.f (startD ["order"] ds)).res
theorem sim_turned : SimS (m_turned (.pure g_need_order) (.pure g_turned_of)) p_turned := (SimS.seq (SimS.expr (Sim.call (Sim.cons Sim.var Sim.nil))) (SimS.ret (Sim.call (Sim.cons Sim.var Sim.nil))))

def p_stacked : PS :=
  (.seq (.expr (.call 1 g_need_order (.cons (.var 0) .nil)))
    (.seq (.expr (.call 1 g_need_order (.cons (.var 1) .nil)))
    (.ret (.call 3 g_both (.cons (.var 0) (.cons (.var 1) (.cons (.val (.bool true)) .nil)))))))
def g_stacked (ds : List D) : Res := (p_stacked.f (startD ["one", "other"] ds)).res
theorem sim_stacked : SimS (m_stacked (.pure g_need_order) (.pure g_both)) p_stacked := (SimS.seq (SimS.expr (Sim.call (Sim.cons Sim.var Sim.nil))) (SimS.seq (SimS.expr (Sim.call (Sim.cons Sim.var Sim.nil))) (SimS.ret (Sim.call (Sim.cons Sim.var (Sim.cons Sim.var (Sim.cons Sim.val Sim.nil)))))))

def p_beside : PS :=
  (.seq (.expr (.call 1 g_need_order (.cons (.var 0) .nil)))
    (.seq (.expr (.call 1 g_need_order (.cons (.var 1) .nil)))
    (.ret (.call 3 g_both (.cons (.var 0) (.cons (.var 1) (.cons (.val (.bool false)) .nil)))))))
def g_beside (ds : List D) : Res := (p_beside.f (startD ["one", "other"] ds)).res
theorem sim_beside : SimS (m_beside (.pure g_need_order) (.pure g_both)) p_beside := (SimS.seq (SimS.expr (Sim.call (Sim.cons Sim.var Sim.nil))) (SimS.seq (SimS.expr (Sim.call (Sim.cons Sim.var Sim.nil))) (SimS.ret (Sim.call (Sim.cons Sim.var (Sim.cons Sim.var (Sim.cons Sim.val Sim.nil)))))))

def p_part : PS :=
  (.seq (.expr (.call 1 g_need_order (.cons (.var 0) .nil)))
    (.seq (.expr (.call 2 g_need_lot (.cons (.var 0) (.cons (.var 1) .nil))))
    (.seq (.ifS (.bool (.op2 false false (cmD .eq) (.var 1) (.tup .nil))) (.raise "InvalidLot") .skip)
    (.ret (.call 2 g_part_of (.cons (.var 0) (.cons (.var 1) .nil)))))))
def g_part (ds : List D) : Res := (p_part.f (startD ["order", "lot"] ds)).res
theorem sim_part : SimS (m_part (.pure g_need_order) (.pure g_need_lot) (.pure g_part_of)) p_part := (SimS.seq (SimS.expr (Sim.call (Sim.cons Sim.var Sim.nil))) (SimS.seq (SimS.expr (Sim.call (Sim.cons Sim.var (Sim.cons Sim.var Sim.nil)))) (SimS.seq (SimS.ifS (Sim.bool (Sim.op2 Sim.var (Sim.tup Sim.nil))) SimS.raise SimS.skip) (SimS.ret (Sim.call (Sim.cons Sim.var (Sim.cons Sim.var Sim.nil)))))))

def p_all_orders : PS :=
  (.seq (.asg (.lst (.cons (.tup .nil) .nil)) (tgN 1))
    (.seq (.forS (.rng1 (.cons (.var 0) .nil)) (tgN 2) (.forS (.rng2 (.cons (.op2 false false (op2 .add) (.var 2) (.val (.int 1))) (.cons (.var 0) .nil))) (tgN 3) (.seq (.asg (.lst .nil) (tgN 4))
    (.seq (.forS (.items (.var 1)) (tgN 5) (.asg (.op2 false false (op2 .add) (.var 4) (.lst (.cons (.var 5) (.cons (.op2 false false (op2 .add) (.var 5) (.tup (.cons (.tup (.cons (.var 2) (.cons (.var 3) .nil))) .nil))) (.cons (.op2 false false (op2 .add) (.var 5) (.tup (.cons (.tup (.cons (.var 3) (.cons (.var 2) .nil))) .nil))) .nil))))) (tgN 4)))
    (.asg (.var 4) (tgN 1))))))
    (.ret (.call1 false sortedD (.lc (.items (.var 1)) [5] (tgN 5) (.bool (.call 1 g_follows (.cons (.var 5) .nil))) (.tup (.cons (.var 0) (.cons (.call1 false tupleD (.call1 false sortedD (.var 5))) .nil))))))))
def g_all_orders (ds : List D) : Res := (p_all_orders.f (startD ["many", "found", "one", "other", "longer", "pairs"] ds)).res
theorem sim_all_orders : SimS (m_all_orders (.pure g_follows)) p_all_orders := (SimS.seq (SimS.asg (Sim.lst (Sim.cons (Sim.tup Sim.nil) Sim.nil))) (SimS.seq (SimS.forS (Sim.rng1 (Sim.cons Sim.var Sim.nil)) (SimS.forS (Sim.rng2 (Sim.cons (Sim.op2 Sim.var Sim.val) (Sim.cons Sim.var Sim.nil))) (SimS.seq (SimS.asg (Sim.lst Sim.nil)) (SimS.seq (SimS.forS (Sim.items Sim.var) (SimS.asg (Sim.op2 Sim.var (Sim.lst (Sim.cons Sim.var (Sim.cons (Sim.op2 Sim.var (Sim.tup (Sim.cons (Sim.tup (Sim.cons Sim.var (Sim.cons Sim.var Sim.nil))) Sim.nil))) (Sim.cons (Sim.op2 Sim.var (Sim.tup (Sim.cons (Sim.tup (Sim.cons Sim.var (Sim.cons Sim.var Sim.nil))) Sim.nil))) Sim.nil))))))) (SimS.asg Sim.var))))) (SimS.ret (Sim.call1 (Sim.lc (Sim.items Sim.var) (Sim.bool (Sim.call (Sim.cons Sim.var Sim.nil))) (Sim.tup (Sim.cons Sim.var (Sim.cons (Sim.call1 (Sim.call1 Sim.var)) Sim.nil))))))))

def p_is_fact : PS :=
  (.ret (.andV (.call1 false (isiD "tuple") (.var 1)) (.andV (.op2 false false (cmD .eq) (.call1 false lenD (.var 1)) (.val (.int 2))) (.andV (.call 2 g_is_row (.cons (.var 0) (.cons (.op2 false false ixD (.var 1) (.val (.int 0))) .nil))) (.call1 false (isiD "bool") (.op2 false false ixD (.var 1) (.val (.int 1))))))))
def g_is_fact (ds : List D) : Res := (p_is_fact.f (startD ["many", "value"] ds)).res
theorem sim_is_fact : SimS (m_is_fact (.pure g_is_row)) p_is_fact := (SimS.ret (Sim.andV (Sim.call1 Sim.var) (Sim.andV (Sim.op2 (Sim.call1 Sim.var) Sim.val) (Sim.andV (Sim.call (Sim.cons Sim.var (Sim.cons (Sim.op2 Sim.var Sim.val) Sim.nil))) (Sim.call1 (Sim.op2 Sim.var Sim.val))))))

def p_need_facts : PS :=
  (.ifS (.orB (.notB (.bool (.call1 false (isiD "tuple") (.var 1)))) (.orB (.bool (.op2 false false (cmD .gt) (.call1 false lenD (.var 1)) (.val (.int 5)))) (.notB (.bool (.call1 false allD (.lc (.items (.var 1)) [2] (tgN 2) (.val true) (.call 2 g_is_fact (.cons (.var 0) (.cons (.var 2) .nil))))))))) (.raise "InvalidFacts") .skip)
def g_need_facts (ds : List D) : Res := (p_need_facts.f (startD ["many", "facts", "fact"] ds)).res
theorem sim_need_facts : SimS (m_need_facts (.pure g_is_fact)) p_need_facts := (SimS.ifS (Sim.orB (Sim.notB (Sim.bool (Sim.call1 Sim.var))) (Sim.orB (Sim.bool (Sim.op2 (Sim.call1 Sim.var) Sim.val)) (Sim.notB (Sim.bool (Sim.call1 (Sim.lc (Sim.items Sim.var) Sim.val (Sim.call (Sim.cons Sim.var (Sim.cons Sim.var Sim.nil))))))))) SimS.raise SimS.skip)

def p_fitting : PS :=
  (.ret (.lc (.items (.call 1 g_all_orders (.cons (.var 0) .nil))) [2] (tgN 2) (.bool (.call1 false allD (.lc (.items (.var 1)) [3, 4] (tgT [3, 4]) (.val true) (.op2 false false (cmD .eq) (.call 2 g_does_keep (.cons (.var 2) (.cons (.var 3) .nil))) (.var 4))))) (.var 2)))
def g_fitting (ds : List D) : Res := (p_fitting.f (startD ["many", "facts", "one", "row", "truth"] ds)).res
theorem sim_fitting : SimS (m_fitting (.pure g_all_orders) (.pure g_does_keep)) p_fitting := (SimS.ret (Sim.lc (Sim.items (Sim.call (Sim.cons Sim.var Sim.nil))) (Sim.bool (Sim.call1 (Sim.lc (Sim.items Sim.var) Sim.val (Sim.op2 (Sim.call (Sim.cons Sim.var (Sim.cons Sim.var Sim.nil))) Sim.var)))) Sim.var))

def p_orders_told : PS :=
  (.seq (.expr (.call 3 g_need_number (.cons (.var 0) (.cons (.val (.int 1)) (.cons (.val (.int 4)) .nil)))))
    (.seq (.expr (.call 2 g_need_facts (.cons (.var 0) (.cons (.var 1) .nil))))
    (.ret (.call 2 g_fitting (.cons (.var 0) (.cons (.var 1) .nil))))))
def g_orders_told (ds : List D) : Res := (p_orders_told.f (startD ["many", "facts"] ds)).res
theorem sim_orders_told : SimS (m_orders_told (.pure g_need_number) (.pure g_need_facts) (.pure g_fitting)) p_orders_told := (SimS.seq (SimS.expr (Sim.call (Sim.cons Sim.var (Sim.cons Sim.val (Sim.cons Sim.val Sim.nil))))) (SimS.seq (SimS.expr (Sim.call (Sim.cons Sim.var (Sim.cons Sim.var Sim.nil)))) (SimS.ret (Sim.call (Sim.cons Sim.var (Sim.cons Sim.var Sim.nil))))))

def p_surely : PS :=
  (.seq (.expr (.call 3 g_need_number (.cons (.var 0) (.cons (.val (.int 1)) (.cons (.val (.int 4)) .nil)))))
    (.seq (.expr (.call 2 g_need_facts (.cons (.var 0) (.cons (.var 1) .nil))))
    (.seq (.expr (.call 3 g_need_unlike (.cons (.var 0) (.cons (.var 2) (.cons (.var 3) .nil)))))
    (.seq (.asg (.call1 false ssetD (.lc (.items (.call 2 g_fitting (.cons (.var 0) (.cons (.var 1) .nil)))) [5] (tgN 5) (.val true) (.op2 false false (cmD .inn) (.tup (.cons (.var 2) (.cons (.var 3) .nil))) (.op2 false false ixD (.var 5) (.val (.int 1)))))) (tgN 4))
    (.ret (.ite (.bool (.op2 false false (cmD .eq) (.call1 false lenD (.var 4)) (.val (.int 1)))) (.op2 false false ixD (.var 4) (.val (.int 0))) (.val .none)))))))
def g_surely (ds : List D) : Res := (p_surely.f (startD ["many", "facts", "a", "b", "some", "one"] ds)).res
theorem sim_surely : SimS (m_surely (.pure g_need_number) (.pure g_need_facts) (.pure g_need_unlike) (.pure g_fitting)) p_surely := (SimS.seq (SimS.expr (Sim.call (Sim.cons Sim.var (Sim.cons Sim.val (Sim.cons Sim.val Sim.nil))))) (SimS.seq (SimS.expr (Sim.call (Sim.cons Sim.var (Sim.cons Sim.var Sim.nil)))) (SimS.seq (SimS.expr (Sim.call (Sim.cons Sim.var (Sim.cons Sim.var (Sim.cons Sim.var Sim.nil))))) (SimS.seq (SimS.asg (Sim.call1 (Sim.lc (Sim.items (Sim.call (Sim.cons Sim.var (Sim.cons Sim.var Sim.nil)))) Sim.val (Sim.op2 (Sim.tup (Sim.cons Sim.var (Sim.cons Sim.var Sim.nil))) (Sim.op2 Sim.var Sim.val))))) (SimS.ret (Sim.ite (Sim.bool (Sim.op2 (Sim.call1 Sim.var) Sim.val)) (Sim.op2 Sim.var Sim.val) Sim.val))))))

def p_pair_in : PS :=
  (.seq (.ifS (.orB (.bool (.op2 false false (cmD .ne) (.call1 false lenD (.var 0)) (.val (.int 3)))) (.orB (.bool (.op2 false false (cmD .notin) (.op2 false false ixD (.var 0) (.val (.int 0))) (.val (.str "012345")))) (.orB (.bool (.op2 false false (cmD .ne) (.op2 false false ixD (.var 0) (.val (.int 1))) (.val (.str "<")))) (.bool (.op2 false false (cmD .notin) (.op2 false false ixD (.var 0) (.val (.int 2))) (.val (.str "012345"))))))) (.ret (.val .none)) .skip)
    (.ret (.tup (.cons (.call1 false intD (.op2 false false ixD (.var 0) (.val (.int 0)))) (.cons (.call1 false intD (.op2 false false ixD (.var 0) (.val (.int 2)))) .nil)))))
def g_pair_in (ds : List D) : Res := (p_pair_in.f (startD ["word"] ds)).res
theorem sim_pair_in : SimS (m_pair_in) p_pair_in := (SimS.seq (SimS.ifS (Sim.orB (Sim.bool (Sim.op2 (Sim.call1 Sim.var) Sim.val)) (Sim.orB (Sim.bool (Sim.op2 (Sim.op2 Sim.var Sim.val) Sim.val)) (Sim.orB (Sim.bool (Sim.op2 (Sim.op2 Sim.var Sim.val) Sim.val)) (Sim.bool (Sim.op2 (Sim.op2 Sim.var Sim.val) Sim.val))))) (SimS.ret Sim.val) SimS.skip) (SimS.ret (Sim.tup (Sim.cons (Sim.call1 (Sim.op2 Sim.var Sim.val)) (Sim.cons (Sim.call1 (Sim.op2 Sim.var Sim.val)) Sim.nil)))))

def p_order_in : PS :=
  (.seq (.ifS (.notB (.bool (.call1 false (isiD "str") (.var 0)))) (.ret (.val .none)) .skip)
    (.seq (.asg (.meth "str" false splitD (.var 0) (.val (.str " "))) (tgN 1))
    (.seq (.ifS (.orB (.bool (.op2 false false (cmD .ne) (.call1 false lenD (.op2 false false ixD (.var 1) (.val (.int 0)))) (.val (.int 1)))) (.bool (.op2 false false (cmD .notin) (.op2 false false ixD (.var 1) (.val (.int 0))) (.val (.str "123456"))))) (.ret (.val .none)) .skip)
    (.seq (.asg (.tup (.cons (.call1 false intD (.op2 false false ixD (.var 1) (.val (.int 0)))) (.cons (.call1 false tupleD (.lc (.items (.slice false (.var 1) (.somI (.val (.int 1))) (.val none))) [3] (tgN 3) (.val true) (.call 1 g_pair_in (.cons (.var 3) .nil)))) .nil))) (tgN 2))
    (.ret (.ite (.bool (.call 1 g_is_good (.cons (.var 2) .nil))) (.var 2) (.val .none)))))))
def g_order_in (ds : List D) : Res := (p_order_in.f (startD ["value", "words", "found", "word"] ds)).res
theorem sim_order_in : SimS (m_order_in (.pure g_pair_in) (.pure g_is_good)) p_order_in := (SimS.seq (SimS.ifS (Sim.notB (Sim.bool (Sim.call1 Sim.var))) (SimS.ret Sim.val) SimS.skip) (SimS.seq (SimS.asg (Sim.meth Sim.var Sim.val)) (SimS.seq (SimS.ifS (Sim.orB (Sim.bool (Sim.op2 (Sim.call1 (Sim.op2 Sim.var Sim.val)) Sim.val)) (Sim.bool (Sim.op2 (Sim.op2 Sim.var Sim.val) Sim.val))) (SimS.ret Sim.val) SimS.skip) (SimS.seq (SimS.asg (Sim.tup (Sim.cons (Sim.call1 (Sim.op2 Sim.var Sim.val)) (Sim.cons (Sim.call1 (Sim.lc (Sim.items (Sim.slice Sim.var (Sim.somI Sim.val) Sim.val)) Sim.val (Sim.call (Sim.cons Sim.var Sim.nil)))) Sim.nil)))) (SimS.ret (Sim.ite (Sim.bool (Sim.call (Sim.cons Sim.var Sim.nil))) Sim.var Sim.val))))))

def p_read_order : PS :=
  (.seq (.asg (.call 1 g_order_in (.cons (.var 0) .nil)) (tgN 1))
    (.seq (.ifS (.bool (.op2 false false (cmD .is) (.var 1) (.val .none))) (.raise "InvalidText") .skip)
    (.ret (.var 1))))
def g_read_order (ds : List D) : Res := (p_read_order.f (startD ["value", "found"] ds)).res
theorem sim_read_order : SimS (m_read_order (.pure g_order_in)) p_read_order := (SimS.seq (SimS.asg (Sim.call (Sim.cons Sim.var Sim.nil))) (SimS.seq (SimS.ifS (Sim.bool (Sim.op2 Sim.var Sim.val)) SimS.raise SimS.skip) (SimS.ret Sim.var)))

def p__wall : PS :=
  (.whileS (.bool (.val (.bool true))) .skip)
def g__wall (ds : List D) : Res := (p__wall.f (startD ["k"] ds)).res
theorem sim__wall : SimS (m__wall) p__wall := (SimS.whileS (Sim.bool Sim.val) SimS.skip)

def p_is_contrary : PS :=
  (.ret (.call1 false anyD (.lc (.items (.call 1 g_closed (.cons (.var 0) .nil))) [1, 2] (tgT [1, 2]) (.val true) (.op2 false false (cmD .eq) (.var 1) (.var 2)))))
def g_is_contrary (ds : List D) : Res := (p_is_contrary.f (startD ["pairs", "one", "other"] ds)).res
theorem sim_is_contrary : SimS (m_is_contrary (.pure g_closed)) p_is_contrary := (SimS.ret (Sim.call1 (Sim.lc (Sim.items (Sim.call (Sim.cons Sim.var Sim.nil))) Sim.val (Sim.op2 Sim.var Sim.var))))

def p__law_called : PS :=
  (.ret (.tup (.cons (.op2 false false ixD (.var 0) (.val (.int 0))) (.cons (.call1 false tupleD (.call1 false sortedD (.lc (.items (.op2 false false ixD (.var 0) (.val (.int 1)))) [2, 3] (tgT [2, 3]) (.val true) (.tup (.cons (.op2 false false ixD (.var 1) (.var 2)) (.cons (.op2 false false ixD (.var 1) (.var 3)) .nil)))))) .nil))))
def g__law_called (ds : List D) : Res := (p__law_called.f (startD ["order_so", "names", "one", "other"] ds)).res
theorem sim__law_called : SimS (m__law_called) p__law_called := (SimS.ret (Sim.tup (Sim.cons (Sim.op2 Sim.var Sim.val) (Sim.cons (Sim.call1 (Sim.call1 (Sim.lc (Sim.items (Sim.op2 Sim.var Sim.val)) Sim.val (Sim.tup (Sim.cons (Sim.op2 Sim.var Sim.var) (Sim.cons (Sim.op2 Sim.var Sim.var) Sim.nil)))))) Sim.nil))))

def p__law_is_order : PS :=
  (.seq (.ifS (.orB (.notB (.bool (.call1 false (isiD "tuple") (.var 0)))) (.orB (.bool (.op2 false false (cmD .ne) (.call1 false lenD (.var 0)) (.val (.int 2)))) (.notB (.bool (.call 3 g__law_is_whole (.cons (.op2 false false ixD (.var 0) (.val (.int 0))) (.cons (.val (.int 1)) (.cons (.val (.int 6)) .nil)))))))) (.ret (.val (.bool false))) .skip)
    (.seq (.ifS (.orB (.notB (.bool (.call1 false (isiD "tuple") (.op2 false false ixD (.var 0) (.val (.int 1)))))) (.bool (.op2 false false (cmD .ne) (.lc (.items (.op2 false false ixD (.var 0) (.val (.int 1)))) [1] (tgN 1) (.notB (.bool (.call 2 g__law_is_pair (.cons (.op2 false false ixD (.var 0) (.val (.int 0))) (.cons (.var 1) .nil))))) (.var 1)) (.lst .nil)))) (.ret (.val (.bool false))) .skip)
    (.seq (.ifS (.bool (.op2 false false (cmD .ne) (.call1 false listD (.op2 false false ixD (.var 0) (.val (.int 1)))) (.call1 false ssetD (.op2 false false ixD (.var 0) (.val (.int 1)))))) (.ret (.val (.bool false))) .skip)
    (.ret (.op2 false false (cmD .eq) (.call 1 g__law_closed (.cons (.op2 false false ixD (.var 0) (.val (.int 1))) .nil)) (.op2 false false ixD (.var 0) (.val (.int 1))))))))
def g__law_is_order (ds : List D) : Res := (p__law_is_order.f (startD ["value", "pair"] ds)).res
theorem sim__law_is_order : SimS (m__law_is_order (.pure g__law_is_whole) (.pure g__law_is_pair) (.pure g__law_closed)) p__law_is_order := (SimS.seq (SimS.ifS (Sim.orB (Sim.notB (Sim.bool (Sim.call1 Sim.var))) (Sim.orB (Sim.bool (Sim.op2 (Sim.call1 Sim.var) Sim.val)) (Sim.notB (Sim.bool (Sim.call (Sim.cons (Sim.op2 Sim.var Sim.val) (Sim.cons Sim.val (Sim.cons Sim.val Sim.nil)))))))) (SimS.ret Sim.val) SimS.skip) (SimS.seq (SimS.ifS (Sim.orB (Sim.notB (Sim.bool (Sim.call1 (Sim.op2 Sim.var Sim.val)))) (Sim.bool (Sim.op2 (Sim.lc (Sim.items (Sim.op2 Sim.var Sim.val)) (Sim.notB (Sim.bool (Sim.call (Sim.cons (Sim.op2 Sim.var Sim.val) (Sim.cons Sim.var Sim.nil))))) Sim.var) (Sim.lst Sim.nil)))) (SimS.ret Sim.val) SimS.skip) (SimS.seq (SimS.ifS (Sim.bool (Sim.op2 (Sim.call1 (Sim.op2 Sim.var Sim.val)) (Sim.call1 (Sim.op2 Sim.var Sim.val)))) (SimS.ret Sim.val) SimS.skip) (SimS.ret (Sim.op2 (Sim.call (Sim.cons (Sim.op2 Sim.var Sim.val) Sim.nil)) (Sim.op2 Sim.var Sim.val))))))

def p__law_reading : PS :=
  (.seq (.asg (.meth "str" false splitD (.var 0) (.val (.str " "))) (tgN 1))
    (.seq (.ifS (.orB (.bool (.op2 false false (cmD .notin) (.op2 false false ixD (.var 1) (.val (.int 0))) (.call1 false listD (.val (.str "123456"))))) (.bool (.op2 false false (cmD .ne) (.lc (.items (.slice false (.var 1) (.somI (.val (.int 1))) (.val none))) [3] (tgN 3) (.orB (.bool (.op2 false false (cmD .ne) (.call1 false lenD (.var 3)) (.val (.int 3)))) (.bool (.op2 false false (cmD .ne) (.op2 false false ixD (.var 3) (.val (.int 1))) (.val (.str "<"))))) (.var 3)) (.lst .nil)))) (.ret (.val .none)) .skip)
    (.seq (.ifS (.bool (.op2 false false (cmD .ne) (.lc (.items (.slice false (.var 1) (.somI (.val (.int 1))) (.val none))) [3] (tgN 3) (.orB (.bool (.op2 false false (cmD .notin) (.op2 false false ixD (.var 3) (.val (.int 0))) (.val (.str "012345")))) (.bool (.op2 false false (cmD .notin) (.op2 false false ixD (.var 3) (.val (.int 2))) (.val (.str "012345"))))) (.var 3)) (.lst .nil))) (.ret (.val .none)) .skip)
    (.seq (.asg (.tup (.cons (.call1 false intD (.op2 false false ixD (.var 1) (.val (.int 0)))) (.cons (.call1 false tupleD (.lc (.items (.slice false (.var 1) (.somI (.val (.int 1))) (.val none))) [3] (tgN 3) (.val true) (.tup (.cons (.call1 false intD (.op2 false false ixD (.var 3) (.val (.int 0)))) (.cons (.call1 false intD (.op2 false false ixD (.var 3) (.val (.int 2)))) .nil))))) .nil))) (tgN 2))
    (.ret (.ite (.bool (.call 1 g__law_is_order (.cons (.var 2) .nil))) (.var 2) (.val .none)))))))
def g__law_reading (ds : List D) : Res := (p__law_reading.f (startD ["text", "words", "found", "word"] ds)).res
theorem sim__law_reading : SimS (m__law_reading (.pure g__law_is_order)) p__law_reading := (SimS.seq (SimS.asg (Sim.meth Sim.var Sim.val)) (SimS.seq (SimS.ifS (Sim.orB (Sim.bool (Sim.op2 (Sim.op2 Sim.var Sim.val) (Sim.call1 Sim.val))) (Sim.bool (Sim.op2 (Sim.lc (Sim.items (Sim.slice Sim.var (Sim.somI Sim.val) Sim.val)) (Sim.orB (Sim.bool (Sim.op2 (Sim.call1 Sim.var) Sim.val)) (Sim.bool (Sim.op2 (Sim.op2 Sim.var Sim.val) Sim.val))) Sim.var) (Sim.lst Sim.nil)))) (SimS.ret Sim.val) SimS.skip) (SimS.seq (SimS.ifS (Sim.bool (Sim.op2 (Sim.lc (Sim.items (Sim.slice Sim.var (Sim.somI Sim.val) Sim.val)) (Sim.orB (Sim.bool (Sim.op2 (Sim.op2 Sim.var Sim.val) Sim.val)) (Sim.bool (Sim.op2 (Sim.op2 Sim.var Sim.val) Sim.val))) Sim.var) (Sim.lst Sim.nil))) (SimS.ret Sim.val) SimS.skip) (SimS.seq (SimS.asg (Sim.tup (Sim.cons (Sim.call1 (Sim.op2 Sim.var Sim.val)) (Sim.cons (Sim.call1 (Sim.lc (Sim.items (Sim.slice Sim.var (Sim.somI Sim.val) Sim.val)) Sim.val (Sim.tup (Sim.cons (Sim.call1 (Sim.op2 Sim.var Sim.val)) (Sim.cons (Sim.call1 (Sim.op2 Sim.var Sim.val)) Sim.nil))))) Sim.nil)))) (SimS.ret (Sim.ite (Sim.bool (Sim.call (Sim.cons Sim.var Sim.nil))) Sim.var Sim.val))))))

-- equals_of: no twin: No('rev')
-- equals: no twin: needs equals_of
-- _law_vat: no twin: cells
-- _law_under: no twin: cells
-- _law_row: no twin: cells
-- _law_order: no twin: cells
-- _law_spoilt: no twin: cells
-- _law_names: no twin: 
-- _law_error: no twin: 
-- _law_all_refused: no twin: No('lambdas')
-- _law_known: no twin: cells
-- distances: no twin: needs equals_of
-- spread_of: no twin: needs distances
-- keeping: no twin: cells
-- least_of: no twin: No('call min')
-- best_of: no twin: needs least_of keeping spread_of
-- spread: no twin: needs spread_of
-- sum_of: no twin: needs distances
-- least_spread: no twin: needs least_of
-- first_best: no twin: needs best_of
-- best_rows: no twin: needs best_of
-- is_best: no twin: needs spread_of least_of
-- count_rows: no twin: needs keeping
-- _law_some: no twin: cells
-- _law_best: no twin: No('call min')
-- ways_from: no twin: No("Dict(keys=[Name(id='thing', ctx=Load())], values=[Constant(v")
-- is_good_crowd: no twin: needs ways_from
-- bar_of: no twin: No('UnaryOp(op=USub(), operand=BinOp(left=UnaryOp(op=USub(), ope')
-- any_least: no twin: No('call min')
-- any_spread: no twin: needs any_least
-- way: no twin: No("call Call(func=Attribute(value=Call(func=Name(id='ways_from', ctx=Load()), a
-- is_crowd: no twin: needs is_good_crowd
-- bar: no twin: needs is_good_crowd bar_of
-- best_crowd: no twin: needs is_good_crowd bar_of
-- _law_told: no twin: 
-- _law_ways: no twin: cells
-- exchanges: no twin: No('enumerate')
-- split: no twin: needs equals_of
-- least_sum: no twin: No('call min')
-- nearest_best: no twin: No('call min')
-- fewest_split: no twin: No('call min')
-- ahead: no twin: needs best_of
-- _law_split: no twin: No('range3')
-- far_pairs: no twin: cells
-- with_far: no twin: needs far_pairs
-- fewest_more: no twin: No('call min')
-- with_more: no twin: No('call min')
-- _law_both: no twin: cells
-- _law_facts: no twin: cells
-- text_of: no twin: No('call str')
-- order_text: no twin: needs text_of
-- _law_value: no twin: No("call Call(func=Attribute(value=Name(id='Order', ctx=Load()), attr='read', ct
-- _law_came: no twin: No("Attribute(value=Name(id='found', ctx=Load()), attr='source',")
-- _law_made: no twin: cells
-- _law_odd: no twin: cells
-- _law_shown: no twin: cells
-- _law_shows: no twin: cells
-- _law_bad: no twin: cells
-- _law_call: no twin: cells
-- _law_led: no twin: No("stmt AugAssign(target=Name(id='queue', ctx=Store()), op=Add(), va")
-- _law_back: no twin: No('range3')
-- _law_two_right: no twin: needs least_spread count_rows equals
-- _law_renamed_right: no twin: cells
-- _law_turned_right: no twin: cells
-- _law_joined_right: no twin: needs least_spread count_rows equals
-- _law_deeds: no twin: cells
-- _law_do: no twin: No("call Call(func=Attribute(value=Name(id='queue', ctx=Load()), attr='come', ct
-- _law_single: no twin: No("call Call(func=Attribute(value=Name(id='queue', ctx=Load()), attr='come', ct
-- _law_look: no twin: No("call Call(func=Attribute(value=Name(id='queue', ctx=Load()), attr='lines', c
-- _law_detour: no twin: No("stmt AugAssign(target=Name(id='queue', ctx=Store()), op=Add(), va")
end EN

/-! == M06 == -/
set_option Elab.async false
set_option linter.all false
set_option maxRecDepth 100000
set_option maxHeartbeats 4000000
set_option autoImplicit false
/-! M06: the terms of this law alone (printed by gen.py). -/
namespace K06
open PySem PySem.Spec PyProof.Rows L2 EN
def m_law (F : Fx) (c__law_vat : C2) (c__law_order : C2) (c_turned : C2) (c__law_both : C2) (c__law_under : C2) (c__law_bad_orders : C2) (c__law_known : C2) (c_stacked : C2) (c_beside : C2) (c_part : C2) (c__law_all_refused__turned : C2) (cG__law_told : C2 → Addr → C2) (cG__law_all_refused : C2 → Addr → C2) (cG__law_error : C2 → Addr → C2) (G_call : EN.D → C2 → Prop) : MS :=
  (.seq (.forS (.rng1 (.cons (.callN maxD2 (.cons (.val (.int 5)) (.cons (.callN minD2 (.cons (.val (.int 11)) (.cons (.lenS F 0) .nil))) .nil))) .nil)) (tgN 1) (.seq (.asg (.call 2 c__law_vat (.cons (.var 0) (.cons (.var 1) .nil))) (tgN 2))
    (.seq (.forS (.rng1 (.cons (.val (.int 4)) .nil)) (tgN 3) (.seq (.asg (.tup (.cons (.call 2 c__law_order (.cons (.var 2) (.cons (.val (.int 6)) .nil))) (.cons (.call 2 c__law_order (.cons (.var 2) (.cons (.val (.int 4)) .nil))) .nil))) (tgT [14, 15]))
    (.seq (.ifS (.bool (.op2 false false (cmD .ne) (.call 1 c_turned (.cons (.var 14) .nil)) (.tup (.cons (.op2 false false ixD (.var 14) (.val (.int 0))) (.cons (.call1 false tupleD (.call1 false sortedD (.lc (.items (.op2 false false ixD (.var 14) (.val (.int 1)))) [17] (tgN 17) (.val true) (.tup (.cons (.op2 false false ixD (.var 17) (.val (.int 1))) (.cons (.op2 false false ixD (.var 17) (.val (.int 0))) .nil)))))) .nil))))) (.ret (.val (.bool false))) .skip)
    (.seq (.forS (.items (.lst (.cons (.tup (.cons (.val (fnD "stacked")) (.cons (.val (.bool true)) .nil))) (.cons (.tup (.cons (.val (fnD "beside")) (.cons (.val (.bool false)) .nil))) .nil)))) (tgT [4, 16]) (.seq (.asg (.ite (.bool (.op2 false false (cmD .lt) (.op2 false false (op2 .add) (.op2 false false ixD (.var 14) (.val (.int 0))) (.op2 false false ixD (.var 15) (.val (.int 0)))) (.val (.int 7)))) (.tup (.cons (.call 3 c__law_both (.cons (.var 14) (.cons (.var 15) (.cons (.var 16) .nil)))) (.cons (.val (.str "")) .nil))) (.tup (.cons (.val .none) (.cons (.val (.str "many value")) .nil)))) (tgN 13))
    (.ifS (.bool (.op2 false false (cmD .ne) (.lam 0 3 [4, 14, 15] (.callv 0 2 G_call (.cons (.var 1) (.cons (.var 2) .nil))) cG__law_told .nil) (.var 13))) (.ret (.val (.bool false))) .skip)))
    (.seq (.asg (.call1 false tupleD (.lc (.rng1 (.cons (.op2 false false ixD (.var 14) (.val (.int 0))) .nil)) [18] (tgN 18) (.bool (.op2 false false (cmD .eq) (.call 2 c__law_under (.cons (.var 2) (.cons (.val (.int 2)) .nil))) (.val (.int 0)))) (.var 18))) (tgN 11))
    (.seq (.asg (.lc (.items (.op2 false false ixD (.var 14) (.val (.int 1)))) [17] (tgN 17) (.andB (.bool (.op2 false false (cmD .inn) (.op2 false false ixD (.var 17) (.val (.int 0))) (.var 11))) (.bool (.op2 false false (cmD .inn) (.op2 false false ixD (.var 17) (.val (.int 1))) (.var 11)))) (.tup (.cons (.meth "seq" false indexD (.var 11) (.op2 false false ixD (.var 17) (.val (.int 0)))) (.cons (.meth "seq" false indexD (.var 11) (.op2 false false ixD (.var 17) (.val (.int 1)))) .nil)))) (tgN 12))
    (.seq (.asg (.ite (.bool (.op2 false false (cmD .ne) (.var 11) (.tup .nil))) (.tup (.cons (.tup (.cons (.call1 false lenD (.var 11)) (.cons (.call1 false tupleD (.call1 false sortedD (.var 12))) .nil))) (.cons (.val (.str "")) .nil))) (.tup (.cons (.val .none) (.cons (.val (.str "lot value")) .nil)))) (tgN 13))
    (.ifS (.bool (.op2 false false (cmD .ne) (.lam 0 2 [14, 11] (.call 2 c_part (.cons (.var 0) (.cons (.var 1) .nil))) cG__law_told .nil) (.var 13))) (.ret (.val (.bool false))) .skip))))))))
    (.seq (.forS (.items (.tup (.cons (.val (fnD "stacked")) (.cons (.val (fnD "beside")) (.cons (.val (fnD "part")) .nil))))) (tgN 4) (.ifS (.notB (.bool (.lam 2 2 [4] (.callv 1 2 G_call (.cons (.var 0) (.cons (.val .none) .nil))) cG__law_all_refused (.cons (.call0 c__law_bad_orders) (.cons (.val (.str "order value")) .nil))))) (.ret (.val (.bool false))) .skip))
    (.seq (.forS (.items (.tup (.cons (.val (fnD "stacked")) (.cons (.val (fnD "beside")) .nil)))) (tgN 4) (.ifS (.notB (.bool (.lam 2 3 [4, 14] (.callv 1 2 G_call (.cons (.var 2) (.cons (.var 0) .nil))) cG__law_all_refused (.cons (.call0 c__law_bad_orders) (.cons (.val (.str "order value")) .nil))))) (.ret (.val (.bool false))) .skip))
    (.seq (.ifS (.notB (.bool (.call 3 c__law_all_refused__turned (.cons (.val (fnD "turned")) (.cons (.call0 c__law_bad_orders) (.cons (.val (.str "order value")) .nil)))))) (.ret (.val (.bool false))) .skip)
    (.ifS (.notB (.bool (.lam 2 2 [14] (.call 2 c_part (.cons (.var 1) (.cons (.var 0) .nil))) cG__law_all_refused (.cons (.lst (.cons (.val .none) (.cons (.lst (.cons (.val (.int 0)) .nil)) (.cons (.tup (.cons (.val (.int 0)) (.cons (.val (.int 0)) .nil))) (.cons (.tup (.cons (.val (.int 1)) (.cons (.val (.int 0)) .nil))) (.cons (.tup (.cons (.op2 false false ixD (.var 14) (.val (.int 0))) .nil)) (.cons (.tup (.cons (.val (.bool true)) .nil)) (.cons (.val (.str "0")) (.cons (.val (.int 0)) .nil))))))))) (.cons (.val (.str "lot value")) .nil))))) (.ret (.val (.bool false))) .skip)))))))
    (.seq (.asg (.call0 c__law_known) (tgL [5, 6, 7, 8, 9, 10]))
    (.seq (.ifS (.orB (.bool (.op2 false false (cmD .ne) (.call 1 c_turned (.cons (.var 7) .nil)) (.tup (.cons (.val (.int 3)) (.cons (.tup (.cons (.tup (.cons (.val (.int 1)) (.cons (.val (.int 0)) .nil))) (.cons (.tup (.cons (.val (.int 2)) (.cons (.val (.int 0)) .nil))) .nil))) .nil))))) (.bool (.op2 false false (cmD .ne) (.call 2 c_stacked (.cons (.var 7) (.cons (.tup (.cons (.val (.int 1)) (.cons (.tup .nil) .nil))) .nil))) (.tup (.cons (.val (.int 4)) (.cons (.tup (.cons (.tup (.cons (.val (.int 0)) (.cons (.val (.int 1)) .nil))) (.cons (.tup (.cons (.val (.int 0)) (.cons (.val (.int 2)) .nil))) (.cons (.tup (.cons (.val (.int 0)) (.cons (.val (.int 3)) .nil))) (.cons (.tup (.cons (.val (.int 1)) (.cons (.val (.int 3)) .nil))) (.cons (.tup (.cons (.val (.int 2)) (.cons (.val (.int 3)) .nil))) .nil)))))) .nil)))))) (.ret (.val (.bool false))) .skip)
    (.seq (.ifS (.orB (.bool (.op2 false false (cmD .ne) (.call 2 c_beside (.cons (.tup (.cons (.val (.int 1)) (.cons (.tup .nil) .nil))) (.cons (.tup (.cons (.val (.int 2)) (.cons (.tup (.cons (.tup (.cons (.val (.int 0)) (.cons (.val (.int 1)) .nil))) .nil)) .nil))) .nil))) (.tup (.cons (.val (.int 3)) (.cons (.tup (.cons (.tup (.cons (.val (.int 1)) (.cons (.val (.int 2)) .nil))) .nil)) .nil))))) (.orB (.bool (.op2 false false (cmD .ne) (.call 2 c_part (.cons (.var 8) (.cons (.tup (.cons (.val (.int 0)) (.cons (.val (.int 2)) (.cons (.val (.int 3)) .nil)))) .nil))) (.tup (.cons (.val (.int 3)) (.cons (.tup (.cons (.tup (.cons (.val (.int 0)) (.cons (.val (.int 1)) .nil))) .nil)) .nil))))) (.bool (.op2 false false (cmD .ne) (.call 2 c_part (.cons (.var 9) (.cons (.tup (.cons (.val (.int 0)) (.cons (.val (.int 5)) .nil))) .nil))) (.tup (.cons (.val (.int 2)) (.cons (.tup (.cons (.tup (.cons (.val (.int 0)) (.cons (.val (.int 1)) .nil))) .nil)) .nil))))))) (.ret (.val (.bool false))) .skip)
    (.ret (.andV (.op2 false false (cmD .eq) (.lam 0 2 [8, 5] (.call 2 c_stacked (.cons (.var 0) (.cons (.var 1) .nil))) cG__law_error .nil) (.val (.str "many value"))) (.op2 false false (cmD .eq) (.call 2 c_stacked (.cons (.tup (.cons (.val (.int 1)) (.cons (.tup .nil) .nil))) (.cons (.tup (.cons (.val (.int 1)) (.cons (.tup .nil) .nil))) .nil))) (.tup (.cons (.val (.int 2)) (.cons (.tup (.cons (.tup (.cons (.val (.int 0)) (.cons (.val (.int 1)) .nil))) .nil)) .nil))))))))))

end K06

/-! == T1 == -/
set_option Elab.async false
set_option linter.all false
set_option maxRecDepth 100000
set_option maxHeartbeats 4000000
set_option autoImplicit false
/-! T1: what a law's end asks of the top, as one look; from it the facts that the walks ask. -/
namespace EN
open PySem PySem.Spec PyProof.Rows L2 He
/-- a law's names: built-in names that are free, numbers, defs, errors made of a text, errors that are told (with what is told and the tests' answers), the tests' classes, defs with lambdas -/
structure HL where
  frees : List Str
  nums : List (Str × Int)
  fns : List (Str × Stmt)
  excs : List Str
  errs : List (Str × Str × List Bool)
  tests : List (Str × Option String)
  lams : List Str
  /-- the error with an __init__ of its own: its __init__ -/
  tm : Option Stmt
def HL.fa (L : HL) : List Fa := L.frees.map .free ++ L.nums.map (fun p => .int p.1 p.2) ++ L.fns.map (fun p => .glo p.1) ++ L.excs.map .glo ++ L.excs.map .exc ++ L.errs.map (fun p => .glo p.1) ++ L.errs.map (fun p => .exm p.1 "NearError" true) ++ (L.tests.filter fun p => p.2.isNone).map (fun p => .glo p.1) ++ (if L.errs.isEmpty then [] else [.glo "NearError"])
def HL.fn (L : HL) : List DefD := L.fns.map fun p => ⟨(p.1, none), p.1, p.1, defArgs p.2, defBody p.2, defScope p.2, [], []⟩
def HL.tf (L : HL) : List Defn := L.lams.map fun x => (x, none)
/-- the class of a test -/
def tstV (K : PySem.W.Frag) (p : Str × Option String) : Value := match p.2 with
  | none => .ref (ga K p.1)
  | some t => .type t
def excB (K : PySem.W.Frag) (D : Addr) : Bool :=
  eqO (PySem.W.findIn K (.ref D) "__getattribute__") (some (some (.builtin "BaseException.__getattribute__"))) && (eqO (PySem.W.findIn K (.ref D) "__getattr__") (some none) && (decide (PySem.W.subIn K (.ref D) (.type "BaseException") = some true) && (PySem.W.hasDictIn K D &&
  (eqO (PySem.W.findIn K (.ref D) "__class__") (some (some (.builtin "object.__class__"))) && (eqO (PySem.W.specialIn K (.builtin "object.__class__") "__get__") (some (some (.builtin "getset_descriptor.__get__"))) && (decide (PySem.W.takesIn K (.builtin "object.__class__") = some true) && decide (PySem.W.mroIn K D (.type "object") = some true)))))))
theorem excB_ok {K : PySem.W.Frag} {D : Addr} (h : excB K D = true) : L2.ExcC K D := by
  obtain ⟨h1, h⟩ := ba h
  obtain ⟨h2, h⟩ := ba h
  obtain ⟨h3, h⟩ := ba h
  obtain ⟨h4, h⟩ := ba h
  obtain ⟨h5, h⟩ := ba h
  obtain ⟨h6, h⟩ := ba h
  obtain ⟨h7, h8⟩ := ba h
  exact ⟨eqO_ok h1, eqO_ok h2, of_decide_eq_true h3, h4, eqO_ok h5, eqO_ok h6, of_decide_eq_true h7, of_decide_eq_true h8⟩
def bitsB (K : PySem.W.Frag) (D : Addr) : List (Str × Option String) → List Bool → Bool
  | [], [] => true
  | p :: ps, b :: bs => decide (PySem.W.kitOne K (.ref D) (tstV K p) = some b) && bitsB K D ps bs
  | _, _ => false
theorem bitsB_ok {K : PySem.W.Frag} {D : Addr} : ∀ {ps : List (Str × Option String)} {bs : List Bool}, bitsB K D ps bs = true → ∀ (i : Nat) (p : Str × Option String), ps[i]? = some p → PySem.W.kitOne K (.ref D) (tstV K p) = some (bs.getD i false)
  | [], _, _, i, p, e => by simp at e
  | _ :: _, [], h, _, _, _ => by cases h
  | q :: ps, b :: bs, h, i, p, e => by
    obtain ⟨h1, h2⟩ := ba (show (decide (PySem.W.kitOne K (.ref D) (tstV K q) = some b) && bitsB K D ps bs) = true from h)
    cases i with
    | zero => simp at e; subst e; exact of_decide_eq_true h1
    | succ i => exact bitsB_ok h2 i p (by simpa using e)
/-! ### the error with an __init__ -/
def excObjB (K : PySem.W.Frag) (C : Addr) (o : Obj) : Bool := match o with
  | ⟨.type "type", _, .cls cd, sl⟩ => (match cd.mro, sl.toList with
    | .ref C' :: bm, [_, _, _, _, some (.builtin n), _] => C' == C && (n == "ValueError.__new__" && (!cd.hasDel && (cd.hasDict && (PySem.HandSPX.refsVE bm && eqO (PySem.W.alongIn K "__init__" bm) (some (some (.builtin "ValueError.__init__")))))))
    | _, _ => false)
  | _ => false
def cdaB (K : PySem.W.Frag) (file : Str) (cda : Addr) : Bool := match K.lookup cda with
  | some ⟨_, _, .fields vs, _⟩ => (match (vs[2]? : Option Value) with
    | some (.str f _) => file == f
    | _ => false)
  | _ => false
def cellB (K : PySem.W.Frag) (C cc : Addr) : Bool := match K.lookup cc with
  | some ⟨_, _, .cell (some (.ref C')), _⟩ => C' == C
  | _ => false
def tmFdB (K : PySem.W.Frag) (file : Str) (C : Addr) (fd : FuncData) : Bool := match fd.code, fd.closure, fd.defaults, fd.kwdefaults with
  | .ref cda, [(_, cc)], .none, .none => PySem.W.codeIn K (.ref cda) "TooMany.__init__" && (cdaB K file cda && cellB K C cc)
  | _, _, _, _ => false
def tmChk (K : PySem.W.Frag) (file : Str) : Bool :=
  (match K.lookup (ga K "TooMany") with
    | some o => excObjB K (ga K "TooMany") o
    | none => false) &&
  (eqO (PySem.W.nsIn K mainGlobals "TooMany") (some (some (.ref (ga K "TooMany")))) && (eqO (PySem.W.nsIn K mainGlobals "super") (some none) && (eqO (PySem.W.findIn K (.ref (ga K "TooMany")) "__setattr__") (some (some (.builtin "object.__setattr__"))) && (eqO (PySem.W.findIn K (.ref (ga K "TooMany")) "limit") (some none) &&
  (eqO (PySem.W.findIn K (.ref (ga K "TooMany")) "__init__") (some (some (.ref (ma K (ga K "TooMany") "__init__")))) && (decide (PySem.W.typeIn K (.ref (ma K (ga K "TooMany") "__init__")) = some (.type "function")) && (PySem.W.keepIn K (.ref (ga K "TooMany")) && (decide (PySem.W.subIn K (.ref (ga K "TooMany")) (.type "BaseException") = some true) && (decide (PySem.W.subIn K (.ref (ga K "TooMany")) (.type "ValueError") = some true) &&
  (decide (PySem.W.mroIn K (ga K "TooMany") (.ref (ga K "TooMany")) = some true) && (decide (PySem.W.typeIn K (.ref (ga K "TooMany")) = some (.type "type")) && (eqO (PySem.W.nsIn K cStatics "thirdparty.any") (some none) &&
  (match K.lookup (ma K (ga K "TooMany") "__init__") with
    | some ⟨_, _, .func fd, _⟩ => tmFdB K file (ga K "TooMany") fd
    | _ => false)))))))))))))
abbrev TmV : Type := Option (Str × Str × Arguments × FuncBody × Scope × Addr × List Str × Addr)
def tmO (K : PySem.W.Frag) : TmV := match K.lookup (ma K (ga K "TooMany") "__init__") with
  | some ⟨_, _, .func fd, _⟩ => some (fd.name, fd.qualname, fd.params, fd.body, fd.scope, fd.globals, fd.closure.map (·.1), fd.builtins)
  | _ => none
def tmV (st : Stmt) : TmV := some ("__init__", "TooMany.__init__", defArgs st, .stmts (defBody st), defScope st, mainGlobals, ["__class__"], builtinsNs)
theorem excObj_of {o : Obj} {C : Addr} {K : PySem.W.Frag} (h : excObjB K C o = true) : ∃ nm q N bs bm sn sub ab col dd k0 k1 k2 k3 k5, o = excClassObj nm q C N bs bm true sn sub ab col dd k0 k1 k2 k3 k5 "ValueError.__new__" ∧ PySem.HandSPX.refsVE bm = true ∧ PySem.W.alongIn K "__init__" bm = some (some (.builtin "ValueError.__init__")) := by
  unfold excObjB at h
  split at h
  · rename_i dd cd sl
    split at h
    · rename_i C' bm k0 k1 k2 k3 n k5 hm hs
      obtain ⟨e1, h⟩ := ba h
      obtain ⟨e2, h⟩ := ba h
      obtain ⟨e3, h⟩ := ba h
      obtain ⟨e4, h⟩ := ba h
      obtain ⟨e5, e6⟩ := ba h
      have f1 := beq_iff_eq.mp e1
      have f2 := beq_iff_eq.mp e2
      have f3 : cd.hasDel = false := by simpa using e3
      clear e1 e2 e3
      obtain ⟨nm, bs, mro, ns, qn, hd, sn, sub, ab, col, del⟩ := cd
      have hsl : sl = #[k0, k1, k2, k3, some (.builtin n), k5] := by
        obtain ⟨l⟩ := sl
        simp only at hs
        rw [hs]
      dsimp only at hm f3 e4
      subst hm f3 e4 f1 f2 hsl
      exact ⟨nm, qn, ns, bs, bm, sn, sub, ab, col, dd, k0, k1, k2, k3, k5, rfl, e5, eqO_ok e6⟩
    · cases h
  · cases h
theorem cda_ok {K : PySem.W.Frag} {file : Str} {cda : Addr} (h : cdaB K file cda = true) : ∃ ccl cdd vs ccs f tf, K.lookup cda = some ⟨ccl, cdd, .fields vs, ccs⟩ ∧ vs[2]? = some (.str f tf) ∧ (file == f) = true := by
  unfold cdaB at h
  split at h
  · rename_i a1 a2 vs a4 z
    split at h
    · rename_i f tf hf
      exact ⟨a1, a2, vs, a4, f, tf, z, hf, h⟩
    · cases h
  · cases h
theorem cell_ok {K : PySem.W.Frag} {C cc : Addr} (h : cellB K C cc = true) : ∃ cl cld csl, K.lookup cc = some ⟨cl, cld, .cell (some (.ref C)), csl⟩ := by
  unfold cellB at h
  split at h
  · rename_i a1 a2 C' a4 z
    have := beq_iff_eq.mp h
    subst this
    exact ⟨_, _, _, z⟩
  · cases h
theorem tm_ok {P : Program} {K : PySem.W.Frag} {h : Heap} {mg : Str → Option Value} {st : Stmt} (X : K.In h) (G : h.Ns mainGlobals mg) (c : tmChk K P.main.file = true) (e : tmO K = tmV st) (ht : (P.main.scope.names.lookup ("super" : Str)).isSome = false)
    (hst : ∃ p1 p2 q1 q2 q3 q4 q5 q6 q7 q8 q9 r1 r2 r3 r4 : Pos, (q3.endLine == q8.line) = true ∧ defArgs st = tmA p1 p2 ∧ defBody st = EN.tmB q1 q2 q3 q4 q5 q6 q7 q8 q9 r1 r2 r3 r4 ∧ defScope st = tmS) :
    TmTxt P K mg (ga K "TooMany") (ma K (ga K "TooMany") "__init__") := by
  obtain ⟨c1, c⟩ := ba c
  obtain ⟨c2, c⟩ := ba c
  obtain ⟨c3, c⟩ := ba c
  obtain ⟨c4, c⟩ := ba c
  obtain ⟨c5, c⟩ := ba c
  obtain ⟨c6, c⟩ := ba c
  obtain ⟨c7, c⟩ := ba c
  obtain ⟨c8, c⟩ := ba c
  obtain ⟨c9, c⟩ := ba c
  obtain ⟨c10, c⟩ := ba c
  obtain ⟨c11, c⟩ := ba c
  obtain ⟨c12, c⟩ := ba c
  obtain ⟨c13, c14⟩ := ba c
  refine ⟨PySem.W.mg_of X G (eqO_ok c2), PySem.W.mg_none_of X G (eqO_ok c3), ?_, eqO_ok c4, eqO_ok c5, eqO_ok c6, of_decide_eq_true c7, c8, of_decide_eq_true c9, of_decide_eq_true c10, of_decide_eq_true c11, of_decide_eq_true c12, eqO_ok c13, ht, ?_⟩
  · cases q : K.lookup (ga K "TooMany") with
    | none => rw [q] at c1; cases c1
    | some o =>
      rw [q] at c1
      obtain ⟨nm, qn, ns, bs, bm, sn, sub, ab, col, dd, k0, k1, k2, k3, k5, rfl, e5, e6⟩ := excObj_of c1
      exact ⟨nm, qn, ns, bs, bm, sn, sub, ab, col, dd, k0, k1, k2, k3, k5, rfl, e5, e6⟩
  · unfold tmO at e
    cases q : K.lookup (ma K (ga K "TooMany") "__init__") with
    | none => rw [q] at c14; cases c14
    | some o =>
      obtain ⟨oc, od, dt, osl⟩ := o
      rw [q] at c14 e
      cases dt with
      | func fd =>
        obtain ⟨n1, n2, n3, n4, n5, n6, n7, n8, n9, n10, n11, n12, n13, n14, n15⟩ := fd
        have e2 := e
        unfold tmV at e2
        simp only [Option.some.injEq, Prod.mk.injEq] at e2
        obtain ⟨h1, h2, h3, h4, h5, h6, h7, h8⟩ := e2
        subst h1 h2 h3 h4 h5 h6 h8
        have c15 : tmFdB K P.main.file (ga K "TooMany") ⟨_, _, _, _, _, _, n7, n8, n9, n10, n11, n12, n13, n14, _⟩ = true := c14
        unfold tmFdB at c15
        split at c15
        · rename_i cda y cc q1 q2 q3 q4
          dsimp only at q1 q2 q3 q4
          subst q1 q2 q3 q4
          obtain ⟨d1, c15⟩ := ba c15
          obtain ⟨d2, d3⟩ := ba c15
          obtain ⟨p1, p2, q1, q2, q3, q4, q5, q6, q7, q8, q9, r1, r2, r3, r4, l1, l2, l3, l4⟩ := hst
          have hy : y = "__class__" := by simpa using h7
          subst hy
          refine ⟨oc, od, n10, n11, n12, cda, cc, n14, osl, p1, p2, q1, q2, q3, q4, q5, q6, q7, q8, q9, r1, r2, r3, r4, l1, ?_, d1, cda_ok d2, cell_ok d3⟩
          rw [← l2, ← l3, ← l4]
        · cases c15
      | _ => cases c14
end EN

/-! == T2 == -/
set_option Elab.async false
set_option linter.all false
set_option maxRecDepth 100000
set_option maxHeartbeats 4000000
set_option autoImplicit false
/-! T2: the facts of a law's top, in any setting that extends it. -/
namespace EN
open PySem PySem.Spec PyProof.Rows L2 He
def bmB (K : PySem.W.Frag) (Ps : List Addr) : Bool := match PySem.W.nsIn K mainGlobals "__builtins__" with
  | some (some (.ref bm)) => (match K.lookup bm with
    | some ⟨.type c, some d, .plain, _⟩ => c == "module" && (d == builtinsNs && (!(bm == builtinsNs) && (!(bm == mainGlobals) && Ps.all fun p => !(bm == p))))
    | _ => false)
  | _ => false
theorem bmB_ok {K : PySem.W.Frag} {h base : Heap} {mg : Str → Option Value} {Ps : List Addr} (X : K.In h) (G : h.Ns mainGlobals mg) (XB : K.In base) (c : bmB K Ps = true) {p : Addr} (hp : p ∈ Ps) : base.BuiltinsAt mg p := by
  unfold bmB at c
  split at c
  · rename_i bm hb
    split at c
    · rename_i c0 d sl hk
      obtain ⟨h1, c⟩ := ba c
      obtain ⟨h2, c⟩ := ba c
      obtain ⟨h3, c⟩ := ba c
      obtain ⟨h4, h5⟩ := ba c
      have e1 := beq_iff_eq.mp h1
      have e2 := beq_iff_eq.mp h2
      subst e1 e2
      have h6 := List.all_eq_true.mp h5 p hp
      exact ⟨bm, _, PySem.W.mg_of X G hb, by simpa using h3, by simpa using h4, by simpa using h6, XB _ _ hk, rfl, rfl, rfl⟩
    · cases c
  · cases c
def HL.tabs (L : HL) (K : PySem.W.Frag) : List (Addr × Str) := L.lams.map fun x => (tabOf K (codeOf K (x, none)), x ++ ".<locals>." ++ "<lambda>")
def nodupB : List Addr → Bool
  | [] => true
  | a :: as => !(as.contains a) && nodupB as
theorem nodupB_ok : ∀ {l : List Addr}, nodupB l = true → l.Nodup
  | [], _ => List.nodup_nil
  | a :: as, h => by
    obtain ⟨h1, h2⟩ := ba (show (!(as.contains a) && nodupB as) = true from h)
    exact List.nodup_cons.mpr ⟨by simpa using h1, nodupB_ok h2⟩
def exN (L : HL) (file : Str) (K : PySem.W.Frag) : Bool :=
  tmChk K file && ((L.errs.all fun p => excB K (ga K p.1) && bitsB K (ga K p.1) L.tests p.2.2) && (nodupB (L.errs.map fun p => ga K p.1) && (nodupB ((L.tabs K).map (·.1)) && (bmB K ((L.tabs K).map (·.1)) && ((L.tabs K).all fun p => !(mainGlobals == p.1))))))
abbrev AlN : Type := AlD × TmV × Bool
def kn (g : Addr → Option Obj) (n : Nat) : PySem.W.Frag := frT g (cStatics :: asD g n)
def obsN (n : Nat) (L : HL) (st : Stmt) (file : Str) (g : Addr → Option Obj) : AlN := (obsD L.fa L.fn (kn g n), tmO (kn g n), exN L file (kn g n) && tabsB g L.tf (kn g n))
def valN (L : HL) (st : Stmt) : AlN := (valD L.fn, tmV st, true)
structure SaysN (L : HL) (st : Stmt) (file : Str) (h : Heap) (K : PySem.W.Frag) : Prop where
  d : SaysD L.fa L.fn K
  tm : tmO K = tmV st
  ex : exN L file K = true
  hd : ∀ p ∈ L.tf, PySem.W.codeHdIn K (cT K p).1 (cT K p).2 = true
  out : ∀ p ∈ L.tf, K.lookup (cT K p).2 = none
  empty : ∀ p ∈ L.tf, h.get? (cT K p).2 = some { cls := .none, data := .fields #[] }
theorem saysN_of {n : Nat} {L : HL} {st : Stmt} {file : Str} {h : Heap} (e : obsN n L st file h.get? = valN L st) : SaysN L st file h (kn h.get? n) := by
  have e1 : obsD L.fa L.fn (kn h.get? n) = valD L.fn := congrArg (fun z : AlN => z.1) e
  have e2 : tmO (kn h.get? n) = tmV st := congrArg (fun z : AlN => z.2.1) e
  have e3 : (exN L file (kn h.get? n) && tabsB h.get? L.tf (kn h.get? n)) = true := congrArg (fun z : AlN => z.2.2) e
  obtain ⟨h1, h2⟩ := ba e3
  have key : ∀ p ∈ L.tf, PySem.W.codeHdIn (kn h.get? n) (cT (kn h.get? n) p).1 (cT (kn h.get? n) p).2 = true ∧ ∃ o, h.get? (cT (kn h.get? n) p).2 = some o ∧ emptyTab o = true := fun p hp => by
    obtain ⟨h3, h4⟩ := ba (List.all_eq_true.mp h2 p hp)
    refine ⟨h3, ?_⟩
    cases q : h.get? (cT (kn h.get? n) p).2 with
    | none => rw [q] at h4; cases h4
    | some o => rw [q] at h4; exact ⟨o, rfl, h4⟩
  exact ⟨e1, e2, h1, fun p hp => (key p hp).1, fun p hp => by
    obtain ⟨_, o, q, z⟩ := key p hp
    exact frT_none q z, fun p hp => by
    obtain ⟨_, o, q, z⟩ := key p hp
    rw [q, emptyTab_eq z]⟩
def hookN (n : Nat) (L : HL) (st : Stmt) (file : Str) : PySem.W.Hook where
  α := AlN
  obs := fun s => obsN n L st file s.heap.get?
  val := fun _ => valN L st
  says := fun _ h => ∃ K : PySem.W.Frag, K.In h ∧ SaysN L st file h K
  of := fun _ _ e => ⟨_, frT_in, saysN_of e⟩
  keeps := fun _ _ _ ⟨K, hK, c⟩ k => ⟨K, PySem.W.Frag.In.keeps hK k, ⟨c.d, c.tm, c.ex, c.hd, c.out, fun p hp => k _ _ (c.empty p hp)⟩⟩
theorem obsN_eq {n : Nat} {L : HL} {st : Stmt} {file : Str} {g : Addr → Option Obj} {s : Shared} (h : ∀ a, g a = s.heap.get? a) : obsN n L st file g = (hookN n L st file).obs s := by
  have e : g = s.heap.get? := funext h
  rw [e] <;> rfl
/-! ### the facts, in a setting -/
structure Hd (L : HL) (P : Program) (F : Fx) : Prop where
  fr : ∀ x, x ∈ L.frees → F.mg x = none
  num : ∀ p, p ∈ L.nums → ∃ t, F.mg p.1 = some (.int p.2 t)
  fn : ∀ p, p ∈ L.fns → ∃ fd, Fun F.K p.1 p.1 p.2 (ga F.K p.1) fd ∧ F.mg p.1 = some (.ref (ga F.K p.1)) ∧ fd.code = .ref (codeOf F.K (p.1, none))
  exc : ∀ x, x ∈ L.excs → (PySem.W.excIn F.K (ga F.K x) veBase "ValueError.__new__" = true ∧ PySem.W.keepIn F.K (.ref (ga F.K x)) = true ∧ PySem.W.subIn F.K (.ref (ga F.K x)) (.type "BaseException") = some true ∧ PySem.W.typeIn F.K (.ref (ga F.K x)) = some (.type "type")) ∧ F.mg x = some (.ref (ga F.K x))
  err : ∀ p, p ∈ L.errs → F.mg p.1 = some (.ref (ga F.K p.1)) ∧ PySem.W.exmOne F.K (.ref (ga F.K p.1)) (.ref (ga F.K "NearError")) = some true ∧ L2.ExcC F.K (ga F.K p.1) ∧ bitsB F.K (ga F.K p.1) L.tests p.2.2 = true
  errN : (L.errs.map fun p => ga F.K p.1).Nodup
  near : L.errs.isEmpty = false → F.mg "NearError" = some (.ref (ga F.K "NearError"))
  tst : ∀ p, p ∈ L.tests → p.2.isNone = true → F.mg p.1 = some (.ref (ga F.K p.1))
  lam : ∀ x, x ∈ L.lams → LamT F x (codeOf F.K (x, none)) (tabOf F.K (codeOf F.K (x, none)))
  tm : TmTxt P F.K F.mg (ga F.K "TooMany") (ma F.K (ga F.K "TooMany") "__init__")
theorem Hd.up {L : HL} {P : Program} {F F' : Fx} (h : Hd L P F) (le : FxLe F F') : Hd L P F' := by
  obtain ⟨K, mg, T, scr, cod, cap, xds⟩ := F
  obtain ⟨K', mg', T', scr', cod', cap', xds'⟩ := F'
  have e1 : mg' = mg := le.mg
  have e2 : K' = K := le.K
  have e3 : T' = T := le.T
  subst e1 e2 e3
  exact ⟨h.fr, h.num, h.fn, h.exc, h.err, h.errN, h.near, h.tst, fun x hx => ⟨(h.lam x hx).tb, (h.lam x hx).mem, (h.lam x hx).uniq⟩, h.tm⟩
theorem nodup_uniq {α β : Type} {f : α → β} : ∀ {l : List α}, (l.map f).Nodup → ∀ a, a ∈ l → ∀ b, b ∈ l → f a = f b → a = b
  | [], _, a, ha, _, _, _ => by cases ha
  | x :: l, h, a, ha, b, hb, e => by
    have h' := List.nodup_cons.mp (show (f x :: l.map f).Nodup from h)
    rcases List.mem_cons.mp ha with e1 | ha1
    · rcases List.mem_cons.mp hb with e2 | hb1
      · rw [e1, e2]
      · exact absurd (List.mem_map.mpr ⟨b, hb1, by rw [← e, e1]⟩) h'.1
    · rcases List.mem_cons.mp hb with e2 | hb1
      · exact absurd (List.mem_map.mpr ⟨a, ha1, by rw [e, e2]⟩) h'.1
      · exact nodup_uniq h'.2 a ha1 b hb1 e
theorem hd_of {L : HL} {P : Program} {F : Fx} {h : Heap} {st : Stmt} (X : F.K.In h) (G : h.Ns mainGlobals F.mg) (c : SaysN L st P.main.file h F.K) (eT : F.T = L.tabs F.K) (ht : (P.main.scope.names.lookup ("super" : Str)).isSome = false)
    (hst : ∃ p1 p2 q1 q2 q3 q4 q5 q6 q7 q8 q9 r1 r2 r3 r4 : Pos, (q3.endLine == q8.line) = true ∧ defArgs st = tmA p1 p2 ∧ defBody st = EN.tmB q1 q2 q3 q4 q5 q6 q7 q8 q9 r1 r2 r3 r4 ∧ defScope st = tmS) : Hd L P F := by
  have fa : ∀ f, f ∈ L.fa → f.ok F.K = true := fun f hf => c.d.facts hf
  obtain ⟨x1, ex⟩ := ba c.ex
  obtain ⟨x2, ex⟩ := ba ex
  obtain ⟨x3, ex⟩ := ba ex
  obtain ⟨x4, ex⟩ := ba ex
  obtain ⟨x5, x6⟩ := ba ex
  refine ⟨fun x hx => free_ok X G (fa (.free x) ?_), fun p hp => He.int_ok X G (fa (.int p.1 p.2) ?_), fun p hp => ?_, fun x hx => ⟨exc_ok (fa (.exc x) ?_), glo_ok X G (fa (.glo x) ?_)⟩, fun p hp => ⟨glo_ok X G (fa (.glo p.1) ?_), exm_ok (fa (.exm p.1 "NearError" true) ?_), ?_⟩, nodupB_ok x3, fun hn => glo_ok X G (fa (.glo "NearError") ?_), fun p hp hn => glo_ok X G (fa (.glo p.1) ?_), fun x hx => ?_, tm_ok X G x1 c.tm ht hst⟩
  · simp only [HL.fa, List.mem_append, List.mem_map]; exact .inl (.inl (.inl (.inl (.inl (.inl (.inl (.inl ⟨x, hx, rfl⟩)))))))
  · simp only [HL.fa, List.mem_append, List.mem_map]; exact .inl (.inl (.inl (.inl (.inl (.inl (.inl (.inr ⟨p, hp, rfl⟩)))))))
  · obtain ⟨fd, h1⟩ := c.d.defs (d := ⟨(p.1, none), p.1, p.1, defArgs p.2, defBody p.2, defScope p.2, [], []⟩) (List.mem_map.mpr ⟨p, hp, rfl⟩)
    have h1 : FunD F.K p.1 p.1 (defArgs p.2) (defBody p.2) (defScope p.2) [] [] (ga F.K p.1) fd := h1
    obtain ⟨oc, od, dV, kV, doc, pm, an, cdv, ct, osl, rfl, lk, hcd, hd, hk⟩ := h1.ex
    have hd : dV = .none := by
      rcases hd with ⟨_, hd⟩ | ⟨hd, _⟩
      · exact hd
      · exact absurd rfl hd
    subst hd
    obtain ⟨cc, rfl⟩ := codeIn_ref hcd
    refine ⟨_, ⟨⟨oc, od, kV, doc, pm, an, .ref cc, ct, osl, rfl, lk, hcd⟩, h1.kp⟩, glo_ok X G (fa (.glo p.1) ?_), ?_⟩
    · simp only [HL.fa, List.mem_append, List.mem_map]; exact .inl (.inl (.inl (.inl (.inl (.inl (.inr ⟨p, hp, rfl⟩))))))
    · exact congrArg Value.ref (codeOf_eq (p := (p.1, none)) lk rfl).symm
  · simp only [HL.fa, List.mem_append, List.mem_map]; exact .inl (.inl (.inl (.inl (.inr ⟨x, hx, rfl⟩))))
  · simp only [HL.fa, List.mem_append, List.mem_map]; exact .inl (.inl (.inl (.inl (.inl (.inr ⟨x, hx, rfl⟩)))))
  · simp only [HL.fa, List.mem_append, List.mem_map]; exact .inl (.inl (.inl (.inr ⟨p, hp, rfl⟩)))
  · simp only [HL.fa, List.mem_append, List.mem_map]; exact .inl (.inl (.inr ⟨p, hp, rfl⟩))
  · obtain ⟨y1, y2⟩ := ba (List.all_eq_true.mp x2 p hp)
    exact ⟨excB_ok y1, y2⟩
  · simp only [HL.fa, List.mem_append]; refine .inr ?_; rw [if_neg (by rw [hn]; exact Bool.noConfusion)]; exact List.mem_singleton.mpr rfl
  · simp only [HL.fa, List.mem_append, List.mem_map]; exact .inl (.inr ⟨p, List.mem_filter.mpr ⟨hp, hn⟩, rfl⟩)
  · have mem : (tabOf F.K (codeOf F.K (x, none)), x ++ ".<locals>." ++ "<lambda>") ∈ L.tabs F.K := List.mem_map.mpr ⟨x, hx, rfl⟩
    have mem1 : tabOf F.K (codeOf F.K (x, none)) ∈ (L.tabs F.K).map (·.1) := List.mem_map.mpr ⟨_, mem, rfl⟩
    refine ⟨fun base XB => ⟨PySem.W.codeHd_of_K XB (c.hd (x, none) (List.mem_map.mpr ⟨x, hx, rfl⟩)), bmB_ok X G XB x5 mem1, ?_⟩, by rw [eT]; exact mem, fun p hp e => ?_⟩
    · have := List.all_eq_true.mp x6 _ mem
      simpa using this
    · rw [eT] at hp
      have := nodup_uniq (nodupB_ok x4) p hp _ mem e
      rw [this]
/-! ### in the words of the walks -/
section
variable {L : HL} {P : Program} {F : Fx}
theorem Hd.bn (h : Hd L P F) (sub : List Str) (e : (sub.all fun x => L.frees.contains x) = true) : ∀ x, x ∈ sub → F.mg x = none := fun x hx => h.fr x (by
  have := List.all_eq_true.mp e x hx
  exact List.contains_iff_mem.mp this)
theorem Hd.gf (h : Hd L P F) {x : Str} {st : Stmt} (hx : (x, st) ∈ L.fns) : GlF F x := by
  obtain ⟨fd, f, g, _⟩ := h.fn _ hx
  exact ⟨⟨.ref _, _, g, rfl, fun H S Z => .fn g f.kp⟩⟩
theorem Hd.ga (h : Hd L P F) {x : Str} {st : Stmt} (hx : (x, st) ∈ L.fns) : GlA F x := (h.gf hx).ga
theorem Hd.gc (h : Hd L P F) {x : Str} {i : Int} (hx : (x, i) ∈ L.nums) : GlC F x (.int i) := by
  obtain ⟨t, g⟩ := h.num _ hx
  exact ⟨⟨.int i, _, g, ⟨t, rfl⟩, fun H S Z => .int i⟩⟩
theorem Hd.ex (h : Hd L P F) {x : Str} (hx : x ∈ L.excs) : ∀ X : Cx, X.K = F.K → X.mg = F.mg → EN.ExcC F X x := fun X hK hm => by
  obtain ⟨⟨h1, h2, h3, h4⟩, g⟩ := h.exc x hx
  exact ⟨⟨_, _, _, _, _, PySem.F.excBase_ValueError, by rw [hK]; exact h1, by rw [hm]; exact g, by rw [hK]; exact h2, raises_own (by rw [hK]; exact h3) (by rw [hK]; exact h4)⟩⟩
def HL.nmA (L : HL) (K : PySem.W.Frag) (D : Addr) : Option Str := (L.errs.map fun p => (He.ga K p.1, p.2.1)).lookup D
def HL.nmS (L : HL) (x : Str) : Option Str := (L.errs.map fun p => (p.1, p.2.1)).lookup x
theorem lookup_first {α β : Type} [BEq α] [LawfulBEq α] {γ : Type} (f : γ → α) (g : γ → β) : ∀ {l : List γ}, (l.map f).Nodup → ∀ p, p ∈ l → (l.map fun p => (f p, g p)).lookup (f p) = some (g p)
  | [], _, p, hp => by cases hp
  | q :: l, h, p, hp => by
    have h' := List.nodup_cons.mp (show (f q :: l.map f).Nodup from h)
    rw [List.map_cons, List.lookup_cons]
    rcases List.mem_cons.mp hp with rfl | hp
    · simp
    · have n : (f p == f q) = false := by
        cases z : f p == f q with
        | false => rfl
        | true => exact absurd (List.mem_map.mpr ⟨p, hp, beq_iff_eq.mp z⟩) h'.1
      rw [n]
      exact lookup_first f g h'.2 p hp
theorem lookup_some_mem {α β γ : Type} [BEq α] [LawfulBEq α] (f : γ → α) (g : γ → β) {x : α} {t : β} : ∀ {l : List γ}, (l.map fun p => (f p, g p)).lookup x = some t → ∃ p, p ∈ l ∧ f p = x ∧ g p = t
  | [], h => by cases h
  | q :: l, h => by
    rw [List.map_cons, List.lookup_cons] at h
    split at h
    · rename_i e
      cases h
      exact ⟨q, List.mem_cons_self, (beq_iff_eq.mp e).symm, rfl⟩
    · obtain ⟨p, h1, h2⟩ := lookup_some_mem f g h
      exact ⟨p, List.mem_cons_of_mem _ h1, h2⟩
theorem Hd.nearOk (h : Hd L P F) : ∀ y t C, L.nmS y = some t → F.mg y = some (.ref C) → PySem.W.exmOne F.K (.ref C) (.ref (He.ga F.K "NearError")) = some true ∧ L.nmA F.K C = some t := fun y t C e g => by
  obtain ⟨p, hp, rfl, rfl⟩ := lookup_some_mem _ _ e
  obtain ⟨g', h1, h2, h3⟩ := h.err p hp
  rw [g'] at g
  cases g
  exact ⟨h1, lookup_first (fun p : Str × Str × List Bool => He.ga F.K p.1) (fun p => p.2.1) h.errN p hp⟩
theorem Hd.of_nmA (h : Hd L P F) {D : Addr} {t : Str} (e : L.nmA F.K D = some t) : ∃ p, p ∈ L.errs ∧ He.ga F.K p.1 = D ∧ p.2.1 = t := lookup_some_mem _ _ e
/-- the tests' answers at the class D -/
def HL.bitsA (L : HL) (K : PySem.W.Frag) (D : Addr) : List Bool := ((L.errs.map fun p => (He.ga K p.1, p.2.2)).lookup D).getD []
theorem Hd.bits (h : Hd L P F) {D : Addr} {t : Str} (e : L.nmA F.K D = some t) : ∃ p, p ∈ L.errs ∧ p.2.1 = t ∧ L.bitsA F.K D = p.2.2 ∧ L2.ExcC F.K D ∧ ∀ (i : Nat) (q : Str × Option String), L.tests[i]? = some q → PySem.W.kitOne F.K (.ref D) (tstV F.K q) = some ((L.bitsA F.K D).getD i false) := by
  obtain ⟨p, hp, rfl, rfl⟩ := h.of_nmA e
  obtain ⟨g', h1, h2, h3⟩ := h.err p hp
  have eb : L.bitsA F.K (He.ga F.K p.1) = p.2.2 := by
    unfold HL.bitsA
    rw [lookup_first (fun p : Str × Str × List Bool => He.ga F.K p.1) (fun p => p.2.2) h.errN p hp] <;> rfl
  refine ⟨p, hp, rfl, eb, h2, fun i q hq => ?_⟩
  rw [eb]
  exact bitsB_ok h3 i q hq
end
end EN

/-! == CD1 == -/
set_option Elab.async false
set_option linter.all false
set_option maxRecDepth 100000
set_option maxHeartbeats 4000000
set_option autoImplicit false
/-! CD1: how the twins are reckoned; data by shapes. -/
namespace EN
open PySem PySem.Spec PyProof.Rows L2
/-! ### reckoning a twin -/
section
variable {α β : Type}
@[simp] theorem R.bind_ok_eq (a : α) (f : α → R β) : (R.ok a).bind f = f a := rfl
@[simp] theorem R.bind_ex_eq (x : Str) (f : α → R β) : (R.ex x : R α).bind f = .ex x := rfl
@[simp] theorem R.bind_no_eq (f : α → R β) : (R.no : R α).bind f = .no := rfl
@[simp] theorem R.ofO_some_eq (a : α) : R.ofO (some a) = .ok a := rfl
@[simp] theorem R.ofO_none_eq : (R.ofO (none : Option α)) = .no := rfl
@[simp] theorem R.calm_ok_eq (a : α) : (R.ok a).calm = .ok a := rfl
@[simp] theorem PF.val_f (a : α) (ρ : Lo) : (PF.val a).f ρ = .ok a := rfl
@[simp] theorem PF.opt_f (o : Option α) (ρ : Lo) : (PF.opt o).f ρ = .ofO o := rfl
@[simp] theorem PF.var_f (i : Nat) (ρ : Lo) : (PF.var i).f ρ = match ρ[i]? with
  | some (some d) => .ok d
  | _ => .no := rfl
@[simp] theorem PF.bind_f (m : PF α) (n : α → PF β) (ρ : Lo) : (m.bind n).f ρ = (m.f ρ).bind fun a => (n a).f ρ := rfl
@[simp] theorem PF.op2_f (r1 r2 : Bool) (g : D → D → Option D) (a b : PF D) (ρ : Lo) : (PF.op2 r1 r2 g a b).f ρ = (a.f ρ).bind fun x => (b.f ρ).bind fun y => .ofO (g x y) := rfl
@[simp] theorem PF.bool_f (m : PF D) (ρ : Lo) : (PF.bool m).f ρ = (m.f ρ).bind fun d => .ofO (asB d) := rfl
@[simp] theorem PF.ite_f (m : PF Bool) (a b : PF α) (ρ : Lo) : (PF.ite m a b).f ρ = (m.f ρ).bind fun k => (cond k a b).f ρ := rfl
@[simp] theorem PF.chain_f (g g' : D → D → Option D) (a b c : PF D) (ρ : Lo) : (PF.chain g g' a b c).f ρ = (a.f ρ).bind fun x => (b.f ρ).bind fun y => (R.ofO ((g x y).bind asB)).bind fun k => (cond k (c.bind fun z => .opt (g' y z)) (.val (.bool false))).f ρ := rfl
@[simp] theorem PF.andB_f (m n : PF Bool) (ρ : Lo) : (PF.andB m n).f ρ = (m.f ρ).bind fun k => (cond k n (.val false)).f ρ := rfl
@[simp] theorem PF.orB_f (m n : PF Bool) (ρ : Lo) : (PF.orB m n).f ρ = (m.f ρ).bind fun k => (cond k (.val true) n).f ρ := rfl
@[simp] theorem PF.notB_f (m : PF Bool) (ρ : Lo) : (PF.notB m).f ρ = (m.f ρ).bind fun k => .ok (!k) := rfl
@[simp] theorem PF.andV_f (m n : PF D) (ρ : Lo) : (PF.andV m n).f ρ = ((m.f ρ).bind fun d => .ofO (asB d)).bind fun k => (cond k n (.val (.bool false))).f ρ := rfl
@[simp] theorem PF.orV_f (m n : PF D) (ρ : Lo) : (PF.orV m n).f ρ = ((m.f ρ).bind fun d => .ofO (asB d)).bind fun k => (cond k (.val (.bool true)) n).f ρ := rfl
@[simp] theorem PF.notV_f (m : PF D) (ρ : Lo) : (PF.notV m).f ρ = ((m.f ρ).bind fun d => .ofO (asB d)).bind fun k => .ok (.bool (!k)) := rfl
@[simp] theorem PF.nil_f (ρ : Lo) : PF.nil.f ρ = .ok [] := rfl
@[simp] theorem PF.cons_f (m : PF D) (t : PF (List D)) (ρ : Lo) : (PF.cons m t).f ρ = (m.f ρ).bind fun d => (t.f ρ).bind fun ds => .ok (d :: ds) := rfl
@[simp] theorem PF.tup_f (t : PF (List D)) (ρ : Lo) : (PF.tup t).f ρ = (t.f ρ).bind fun ds => .ofO (if ds.length ≤ sizeLine then some (.tuple ds) else none) := rfl
@[simp] theorem PF.lst_f (t : PF (List D)) (ρ : Lo) : (PF.lst t).f ρ = (t.f ρ).bind fun ds => .ofO (if ds.length ≤ sizeLine then some (.list ds) else none) := rfl
@[simp] theorem PF.items_f (m : PF D) (ρ : Lo) : (PF.items m).f ρ = (m.f ρ).bind fun d => .ofO (asL d) := rfl
@[simp] theorem PF.rng1_f (t : PF (List D)) (ρ : Lo) : (PF.rng1 t).f ρ = (t.f ρ).bind fun ds => .ofO (rngD1 ds) := rfl
@[simp] theorem PF.rng2_f (t : PF (List D)) (ρ : Lo) : (PF.rng2 t).f ρ = (t.f ρ).bind fun ds => .ofO (rngD2 ds) := rfl
@[simp] theorem PF.zip_f (t : PF (List D)) (ρ : Lo) : (PF.zip t).f ρ = (t.f ρ).bind fun ds => .ofO (zipD ds) := rfl
@[simp] theorem PF.call1_f (r : Bool) (g : D → Option D) (m : PF D) (ρ : Lo) : (PF.call1 r g m).f ρ = (m.f ρ).bind fun d => .ofO (g d) := rfl
@[simp] theorem PF.callN_f (g : List D → Option D) (t : PF (List D)) (ρ : Lo) : (PF.callN g t).f ρ = (t.f ρ).bind fun ds => .ofO (g ds) := rfl
@[simp] theorem PF.somI_f (m : PF D) (ρ : Lo) : (PF.somI m).f ρ = (m.f ρ).bind fun d => .ofO ((asI d).map some) := rfl
@[simp] theorem PF.slice_f (r : Bool) (m : PF D) (lo hi : PF (Option Int)) (ρ : Lo) : (PF.slice r m lo hi).f ρ = (m.f ρ).bind fun d => (lo.f ρ).bind fun l => (hi.f ρ).bind fun u => .ofO (sliceD l u d) := rfl
@[simp] theorem PF.meth_f (T : String) (r : Bool) (g : D → D → Option D) (mo mv : PF D) (ρ : Lo) : (PF.meth T r g mo mv).f ρ = (mo.f ρ).bind fun d => (R.ofO (if isTy T d then some () else none)).bind fun _ => (mv.f ρ).bind fun y => .ofO (g d y) := rfl
@[simp] theorem PF.rg1_f (a : PF D) (ρ : Lo) : (PF.rg1 a).f ρ = (a.f ρ).bind fun d => .ofO ((asI d).bind fun n => rgD 0 n) := rfl
@[simp] theorem PF.rg2_f (a b : PF D) (ρ : Lo) : (PF.rg2 a b).f ρ = (a.f ρ).bind fun d => (b.f ρ).bind fun d2 => .ofO ((asI d).bind fun n => (asI d2).bind fun n2 => rgD n n2) := rfl
@[simp] theorem PF.lstV_f (t : PF (List D)) (ρ : Lo) : (PF.lstV t).f ρ = (t.f ρ).bind fun ds => .ok (.list ds) := rfl
@[simp] theorem PF.tupV_f (t : PF (List D)) (ρ : Lo) : (PF.tupV t).f ρ = (t.f ρ).bind fun ds => .ok (.tuple ds) := rfl
@[simp] theorem PF.call_f (n : Nat) (c : List D → Res) (t : PF (List D)) (ρ : Lo) : (PF.call n c t).f ρ = (t.f ρ).bind fun ds => if ds.length = n then (c ds).r else .no := rfl
@[simp] theorem Res.r_ok (d : D) : (Res.ok d).r = .ok d := rfl
@[simp] theorem Res.r_ex (x : Str) : (Res.ex x).r = .ex x := rfl
@[simp] theorem PF.lc_f (mi : PF (List D)) (vs : List Nat) (tg : Tg) (mt : PF Bool) (me : PF D) (ρ : Lo) : (PF.lc mi vs tg mt me).f ρ = (mi.f ρ).bind fun ds => (PF.lcP vs tg mt me ds [] ρ).bind fun acc => .ok (.list acc) := rfl
@[simp] theorem PF.lc2_f (mi : PF (List D)) (vs : List Nat) (tg : Tg) (mi1 : PF (List D)) (vs1 : List Nat) (tg1 : Tg) (mt : PF Bool) (me : PF D) (ρ : Lo) : (PF.lc2 mi vs tg mi1 vs1 tg1 mt me).f ρ = (mi.f ρ).bind fun ds => (PF.lcP2 vs tg mi1 vs1 tg1 mt me ds [] ρ).bind fun acc => .ok (.list acc) := rfl
@[simp] theorem RS.then_nx (ρ : Lo) (f : Lo → RS) : (RS.nx ρ).then_ f = f ρ := rfl
@[simp] theorem RS.then_rt (d : D) (f : Lo → RS) : (RS.rt d).then_ f = .rt d := rfl
@[simp] theorem RS.then_ex (x : Str) (ρ : Lo) (f : Lo → RS) : (RS.ex x ρ).then_ f = .ex x ρ := rfl
@[simp] theorem RS.of_ok (a : α) (ρ : Lo) (f : α → RS) : RS.of (.ok a) ρ f = f a := rfl
@[simp] theorem RS.of_ex (x : Str) (ρ : Lo) (f : α → RS) : RS.of (.ex x : R α) ρ f = .ex x ρ := rfl
@[simp] theorem RS.res_nx (ρ : Lo) : (RS.nx ρ).res = .ok .none := rfl
@[simp] theorem RS.res_rt (d : D) : (RS.rt d).res = .ok d := rfl
@[simp] theorem RS.res_ex (x : Str) (ρ : Lo) : (RS.ex x ρ).res = .ex x := rfl
@[simp] theorem PS.skip_f (ρ : Lo) : PS.skip.f ρ = .nx ρ := rfl
@[simp] theorem PS.seq_f (a b : PS) (ρ : Lo) : (PS.seq a b).f ρ = (a.f ρ).then_ b.f := rfl
@[simp] theorem PS.ret_f (m : PF D) (ρ : Lo) : (PS.ret m).f ρ = .of (m.f ρ) ρ .rt := rfl
@[simp] theorem PS.asg_f (m : PF D) (tg : Tg) (ρ : Lo) : (PS.asg m tg).f ρ = .of (m.f ρ) ρ fun d => match tg d ρ with
  | some ρ' => .nx ρ'
  | none => .no := rfl
@[simp] theorem PS.expr_f (m : PF D) (ρ : Lo) : (PS.expr m).f ρ = .of (m.f ρ) ρ fun _ => .nx ρ := rfl
@[simp] theorem PS.ifS_f (c : PF Bool) (a b : PS) (ρ : Lo) : (PS.ifS c a b).f ρ = .of (c.f ρ) ρ fun k => cond k (a.f ρ) (b.f ρ) := rfl
@[simp] theorem PS.raise_f (x : Str) (ρ : Lo) : (PS.raise x).f ρ = .ex x ρ := rfl
@[simp] theorem PS.forS_f (mi : PF (List D)) (tg : Tg) (b : PS) (ρ : Lo) : (PS.forS mi tg b).f ρ = .of (mi.f ρ) ρ fun ds => PS.forP tg b ds ρ := rfl
@[simp] theorem PS.whileS_f (c : PF Bool) (b : PS) (ρ : Lo) : (PS.whileS c b).f ρ = PS.whileP c b 100000 ρ := rfl
@[simp] theorem asB_bool (b : Bool) : asB (.bool b) = some b := rfl
@[simp] theorem asI_int (i : Int) : asI (.int i) = some i := rfl
@[simp] theorem asL_list (ds : List D) : asL (.list ds) = some ds := rfl
@[simp] theorem asL_tuple (ds : List D) : asL (.tuple ds) = some ds := rfl
@[simp] theorem tgN_eq (i : Nat) (d : D) (ρ : Lo) : tgN i d ρ = some (ρ.set i (some d)) := rfl
@[simp] theorem tgT_eq (is : List Nat) (ds : List D) (ρ : Lo) : tgT is (.tuple ds) ρ = setAll is ds ρ := rfl
@[simp] theorem tgL_eq (is : List Nat) (ds : List D) (ρ : Lo) : tgL is (.list ds) ρ = setAll is ds ρ := rfl
@[simp] theorem setAll_nil (ρ : Lo) : setAll [] [] ρ = some ρ := rfl
@[simp] theorem setAll_cons (i : Nat) (is : List Nat) (d : D) (ds : List D) (ρ : Lo) : setAll (i :: is) (d :: ds) ρ = setAll is ds (ρ.set i (some d)) := rfl
@[simp] theorem wipeD_nil (ρ : Lo) : wipeD ρ [] = ρ := rfl
@[simp] theorem wipeD_cons (ρ : Lo) (v : Nat) (vs : List Nat) : wipeD ρ (v :: vs) = (wipeD ρ vs).set v none := rfl
end
/-- a comprehension over things of one kind -/
theorem lcP_map {X : Type} {vs : List Nat} {tg : Tg} {mt : PF Bool} {me : PF D} {ρ : Lo} (enc : X → D) (t : X → Bool) (e : X → D) : ∀ (xs : List X) (acc : List D), (∀ x, x ∈ xs → ∃ ρ', tg (enc x) (wipeD ρ vs) = some ρ' ∧ mt.f ρ' = .ok (t x) ∧ (t x = true → me.f ρ' = .ok (e x))) → acc.length + xs.length ≤ sizeLine →
    PF.lcP vs tg mt me (xs.map enc) acc ρ = .ok (acc ++ (xs.filter t).map e)
  | [], acc, _, _ => by simp [PF.lcP]
  | x :: xs, acc, h, hl => by
    obtain ⟨ρ', h1, h2, h3⟩ := h x List.mem_cons_self
    rw [List.length_cons] at hl
    rw [List.map_cons]
    unfold PF.lcP
    rw [h1]
    simp only [h2, R.calm_ok_eq, R.bind_ok_eq]
    cases ht : t x with
    | false =>
      rw [List.filter_cons_of_neg (by rw [ht]; exact Bool.noConfusion)]
      exact lcP_map enc t e xs acc (fun y hy => h y (List.mem_cons_of_mem _ hy)) (by omega)
    | true =>
      rw [List.filter_cons_of_pos ht]
      simp only [cond, h3 ht, R.calm_ok_eq, R.bind_ok_eq]
      rw [if_pos (by omega), lcP_map enc t e xs _ (fun y hy => h y (List.mem_cons_of_mem _ hy)) (by rw [List.length_append]; simp; omega)]
      simp
theorem lcP2_map {X Y : Type} {vs vs1 : List Nat} {tg tg1 : Tg} {mi1 : PF (List D)} {mt : PF Bool} {me : PF D} {ρ : Lo} (enc : X → D) (enc1 : Y → D) (ys : X → List Y) (t : X → Y → Bool) (e : X → Y → D) : ∀ (xs : List X) (acc : List D),
    (∀ x, x ∈ xs → ∃ ρ', tg (enc x) (wipeD ρ vs) = some ρ' ∧ mi1.f ρ' = .ok ((ys x).map enc1) ∧ ∀ y, y ∈ ys x → ∃ ρ2, tg1 (enc1 y) (wipeD ρ' vs1) = some ρ2 ∧ mt.f ρ2 = .ok (t x y) ∧ (t x y = true → me.f ρ2 = .ok (e x y))) →
    acc.length + (xs.map fun x => (ys x).length).sum ≤ sizeLine →
    PF.lcP2 vs tg mi1 vs1 tg1 mt me (xs.map enc) acc ρ = .ok (acc ++ xs.flatMap fun x => ((ys x).filter (t x)).map (e x))
  | [], acc, _, _ => by simp [PF.lcP2]
  | x :: xs, acc, h, hl => by
    obtain ⟨ρ', h1, h2, h3⟩ := h x List.mem_cons_self
    rw [List.map_cons, List.sum_cons] at hl
    rw [List.map_cons]
    unfold PF.lcP2
    rw [h1]
    simp only [h2, R.calm_ok_eq, R.bind_ok_eq]
    rw [lcP_map enc1 (t x) (e x) (ys x) acc h3 (by omega)]
    simp only [R.bind_ok_eq]
    have hf : ((ys x).filter (t x)).length ≤ (ys x).length := List.length_filter_le _ _
    rw [lcP2_map enc enc1 ys t e xs _ (fun y hy => h y (List.mem_cons_of_mem _ hy)) (by rw [List.length_append, List.length_map]; omega)]
    simp
theorem sum_le {X : Type} {f : X → Nat} {m : Nat} : ∀ {xs : List X}, (∀ x, x ∈ xs → f x ≤ m) → (xs.map f).sum ≤ xs.length * m
  | [], _ => by simp
  | x :: xs, h => by
    have := sum_le (xs := xs) fun y hy => h y (List.mem_cons_of_mem _ hy)
    have := h x List.mem_cons_self
    rw [List.map_cons, List.sum_cons, List.length_cons, Nat.succ_mul]
    omega
theorem lcP2_mapN {X Y : Type} {vs vs1 : List Nat} {tg tg1 : Tg} {mi1 : PF (List D)} {mt : PF Bool} {me : PF D} {ρ : Lo} (k m : Nat) (enc : X → D) (enc1 : Y → D) (ys : X → List Y) (t : X → Y → Bool) (e : X → Y → D) (xs : List X)
    (h : ∀ x, x ∈ xs → ∃ ρ', tg (enc x) (wipeD ρ vs) = some ρ' ∧ mi1.f ρ' = .ok ((ys x).map enc1) ∧ ∀ y, y ∈ ys x → ∃ ρ2, tg1 (enc1 y) (wipeD ρ' vs1) = some ρ2 ∧ mt.f ρ2 = .ok (t x y) ∧ (t x y = true → me.f ρ2 = .ok (e x y)))
    (hk : xs.length ≤ k) (hm : ∀ x, x ∈ xs → (ys x).length ≤ m) (hz : k * m ≤ 16777216 := by decide) :
    PF.lcP2 vs tg mi1 vs1 tg1 mt me (xs.map enc) [] ρ = .ok (xs.flatMap fun x => ((ys x).filter (t x)).map (e x)) := by
  rw [lcP2_map enc enc1 ys t e xs [] h ?_, List.nil_append]
  have h1 := sum_le hm
  have h2 : xs.length * m ≤ k * m := Nat.mul_le_mul_right m hk
  have h3 : 16777216 ≤ sizeLine := by rw [sizeLine_eq]; decide
  have h4 : ([] : List D).length = 0 := rfl
  omega
/-- a for over things of one kind, by what is kept -/
theorem forP_inv {X T : Type} {tg : Tg} {body : PS} (enc : X → D) (step : T → X → T) (I : T → Lo → Prop) : ∀ (xs : List X) (s : T) (ρ : Lo), (∀ x, x ∈ xs → ∀ s ρ, I s ρ → ∃ ρ' ρ2, tg (enc x) ρ = some ρ' ∧ body.f ρ' = .nx ρ2 ∧ I (step s x) ρ2) → I s ρ →
    ∃ ρ', PS.forP tg body (xs.map enc) ρ = .nx ρ' ∧ I (xs.foldl step s) ρ'
  | [], s, ρ, _, h => ⟨ρ, rfl, h⟩
  | x :: xs, s, ρ, h, hI => by
    obtain ⟨ρ', ρ2, h1, h2, h3⟩ := h x List.mem_cons_self s ρ hI
    obtain ⟨ρ3, h4, h5⟩ := forP_inv enc step I xs (step s x) ρ2 (fun y hy => h y (List.mem_cons_of_mem _ hy)) h3
    refine ⟨ρ3, ?_, h5⟩
    rw [List.map_cons]
    unfold PS.forP
    rw [h1]
    simp only [h2, RS.then_nx]
    exact h4
/-- .. with the turn's number -/
theorem forP_idx {X T : Type} {tg : Tg} {body : PS} (enc : X → D) (step : T → X → T) (I : Nat → T → Lo → Prop) (n : Nat) : ∀ (xs : List X) (i : Nat) (s : T) (ρ : Lo), i + xs.length = n → (∀ x, x ∈ xs → ∀ i s ρ, i < n → I i s ρ → ∃ ρ' ρ2, tg (enc x) ρ = some ρ' ∧ body.f ρ' = .nx ρ2 ∧ I (i + 1) (step s x) ρ2) → I i s ρ →
    ∃ ρ', PS.forP tg body (xs.map enc) ρ = .nx ρ' ∧ I n (xs.foldl step s) ρ'
  | [], i, s, ρ, hn, _, h => ⟨ρ, rfl, by simp at hn; subst hn; exact h⟩
  | x :: xs, i, s, ρ, hn, h, hI => by
    rw [List.length_cons] at hn
    obtain ⟨ρ', ρ2, h1, h2, h3⟩ := h x List.mem_cons_self i s ρ (by omega) hI
    obtain ⟨ρ3, h4, h5⟩ := forP_idx enc step I n xs (i + 1) (step s x) ρ2 (by omega) (fun y hy => h y (List.mem_cons_of_mem _ hy)) h3
    refine ⟨ρ3, ?_, h5⟩
    rw [List.map_cons]
    unfold PS.forP
    rw [h1]
    simp only [h2, RS.then_nx]
    exact h4
end EN

/-! == CD2 == -/
set_option Elab.async false
set_option linter.all false
set_option maxRecDepth 100000
set_option maxHeartbeats 4000000
set_option autoImplicit false
/-! CD2: numbers, pairs, rows, orders as data. -/
namespace EN
open PySem PySem.Spec PyProof.Rows L2
abbrev IP := Int × Int
abbrev iD (i : Int) : D := .int i
def rowD (r : List Int) : D := .tuple (r.map .int)
def prsD (ps : List IP) : D := .tuple (ps.map pairD)
def oD (n : Int) (ps : List IP) : D := .tuple [.int n, prsD ps]
/-! ### depth -/
structure Lay (n : Nat) (d : D) : Prop where
  lay : d.canLay0 = true
  dep : d.depth ≤ n
theorem Lay.mono {n m : Nat} {d : D} (h : Lay n d) (e : n ≤ m) : Lay m d := ⟨h.lay, Nat.le_trans h.dep e⟩
theorem lay_int (i : Int) : Lay 0 (.int i) := ⟨rfl, Nat.le_refl _⟩
theorem lay_bool (i : Bool) : Lay 0 (.bool i) := ⟨rfl, Nat.le_refl _⟩
theorem lay_none : Lay 0 (.none : D) := ⟨rfl, Nat.le_refl _⟩
theorem lay_all {n : Nat} : ∀ {ds : List D}, (∀ d, d ∈ ds → Lay n d) → PyData.canLayAll0 ds = true ∧ PyData.depthAll ds ≤ n
  | [], _ => ⟨rfl, Nat.zero_le _⟩
  | d :: ds, h => by
    obtain ⟨h1, h2⟩ := lay_all (ds := ds) fun x hx => h x (List.mem_cons_of_mem _ hx)
    obtain ⟨h3, h4⟩ := h d List.mem_cons_self
    refine ⟨?_, ?_⟩
    · show (d.canLay0 && PyData.canLayAll0 ds) = true
      rw [h1, h3]; rfl
    · show max d.depth (PyData.depthAll ds) ≤ n
      omega
theorem lay_tup {n : Nat} {ds : List D} (h : ∀ d, d ∈ ds → Lay n d) : Lay (n + 1) (.tuple ds) := ⟨(lay_all h).1, by show PyData.depthAll ds + 1 ≤ n + 1; have := (lay_all h).2; omega⟩
theorem lay_lst {n : Nat} {ds : List D} (h : ∀ d, d ∈ ds → Lay n d) : Lay (n + 1) (.list ds) := ⟨(lay_all h).1, by show PyData.depthAll ds + 1 ≤ n + 1; have := (lay_all h).2; omega⟩
theorem lay_map {X : Type} {n : Nat} {f : X → D} (h : ∀ x, Lay n (f x)) (xs : List X) : ∀ d, d ∈ xs.map f → Lay n d := fun d hd => by
  obtain ⟨x, _, rfl⟩ := List.mem_map.mp hd
  exact h x
theorem Lay.shaped {n : Nat} {d : D} (h : Lay n d) (e : n ≤ 64 := by decide) : SeqAt.shaped d = true := by
  unfold SeqAt.shaped
  rw [h.lay, decide_eq_true (Nat.le_trans h.dep e)]; rfl
theorem lay_pair (p : IP) : Lay 1 (pairD p) := lay_tup (n := 0) fun d hd => by
  rcases List.mem_cons.mp hd with rfl | hd
  · exact lay_int _
  · rcases List.mem_cons.mp hd with rfl | hd
    · exact lay_int _
    · cases hd
theorem lay_row (r : List Int) : Lay 1 (rowD r) := lay_tup (lay_map lay_int r)
theorem lay_prs (ps : List IP) : Lay 2 (prsD ps) := lay_tup (lay_map lay_pair ps)
theorem lay_oD (n : Int) (ps : List IP) : Lay 3 (oD n ps) := lay_tup (n := 2) fun d hd => by
  rcases List.mem_cons.mp hd with rfl | hd
  · exact (lay_int _).mono (by decide)
  · rcases List.mem_cons.mp hd with rfl | hd
    · exact lay_prs ps
    · cases hd
/-! ### equality -/
/-- an encoding that keeps things apart -/
def EncE {X : Type} [DecidableEq X] (f : X → D) : Prop := ∀ x y, PyData.eqv (f x) (f y) = decide (x = y)
theorem eqvAll_map {X : Type} [DecidableEq X] {f : X → D} (h : EncE f) : ∀ xs ys : List X, PyData.eqvAll (xs.map f) (ys.map f) = decide (xs = ys)
  | [], [] => by simp [PyData.eqvAll]
  | [], y :: ys => by simp [PyData.eqvAll]
  | x :: xs, [] => by simp [PyData.eqvAll]
  | x :: xs, y :: ys => by
    show (PyData.eqv (f x) (f y) && PyData.eqvAll (xs.map f) (ys.map f)) = _
    rw [h, eqvAll_map h xs ys]
    by_cases h1 : x = y <;> by_cases h2 : xs = ys <;> simp [h1, h2]
theorem encE_int : EncE (PyData.int : Int → D) := fun x y => by
  show (x == y) = _
  by_cases h : x = y <;> simp [h]
theorem encE_bool : EncE (PyData.bool : Bool → D) := fun x y => by
  show (x == y) = _
  by_cases h : x = y <;> simp [h]
theorem encE_tup {X : Type} [DecidableEq X] {f : X → D} (h : EncE f) : EncE (fun xs : List X => (.tuple (xs.map f) : D)) := fun xs ys => eqvAll_map h xs ys
theorem encE_lst {X : Type} [DecidableEq X] {f : X → D} (h : EncE f) : EncE (fun xs : List X => (.list (xs.map f) : D)) := fun xs ys => eqvAll_map h xs ys
theorem encE_two {X Y : Type} [DecidableEq X] [DecidableEq Y] {f : X → D} {g : Y → D} (h1 : EncE f) (h2 : EncE g) : EncE (fun p : X × Y => (.tuple [f p.1, g p.2] : D)) := fun p q => by
  show (PyData.eqv (f p.1) (f q.1) && (PyData.eqv (g p.2) (g q.2) && true)) = _
  rw [h1, h2]
  obtain ⟨a, b⟩ := p
  obtain ⟨c, d⟩ := q
  simp
theorem encE_pair : EncE pairD := encE_two encE_int encE_int
theorem encE_row : EncE rowD := encE_tup encE_int
theorem encE_prs : EncE prsD := encE_tup encE_pair
theorem encE_o : EncE (fun p : Int × List IP => oD p.1 p.2) := encE_two encE_int encE_prs
theorem encE_rows : EncE (fun rs : List (List Int) => (.list (rs.map rowD) : D)) := encE_lst encE_row
theorem EncE.eq {X : Type} [DecidableEq X] {f : X → D} (h : EncE f) {n : Nat} (l : ∀ x, Lay n (f x)) (x y : X) (e : n ≤ 64 := by decide) : cmD .eq (f x) (f y) = some (.bool (decide (x = y))) := by
  show (eqD (f x) (f y)).map PyData.bool = _
  unfold eqD
  rw [(l x).shaped e, (l y).shaped e, h]; rfl
theorem EncE.ne {X : Type} [DecidableEq X] {f : X → D} (h : EncE f) {n : Nat} (l : ∀ x, Lay n (f x)) (x y : X) (e : n ≤ 64 := by decide) : cmD .ne (f x) (f y) = some (.bool (!decide (x = y))) := by
  show ((eqD (f x) (f y)).map (!·)).map PyData.bool = _
  unfold eqD
  rw [(l x).shaped e, (l y).shaped e, h]; rfl
theorem any_eqv {X : Type} [DecidableEq X] {f : X → D} (h : EncE f) (x : X) : ∀ xs : List X, ((xs.map f).any fun z => PyData.eqv z (f x)) = decide (x ∈ xs)
  | [] => by simp
  | y :: ys => by
    rw [List.map_cons, List.any_cons, any_eqv h x ys, h]
    by_cases e : y = x
    · subst e; simp
    · have e' : ¬ x = y := fun z => e z.symm
      simp [e, e']
theorem EncE.innT {X : Type} [DecidableEq X] {f : X → D} (h : EncE f) {n : Nat} (l : ∀ x, Lay n (f x)) (x : X) (xs : List X) (e : n + 1 ≤ 64 := by decide) : cmD .inn (f x) (.tuple (xs.map f)) = some (.bool (decide (x ∈ xs))) := by
  show (inD (f x) (.tuple (xs.map f))).map PyData.bool = _
  have e1 : inD (f x) (.tuple (xs.map f)) = if SeqAt.shaped (f x) && SeqAt.shaped (.tuple (xs.map f)) then some ((xs.map f).any fun z => PyData.eqv z (f x)) else none := by
    unfold inD
    cases f x <;> rfl
  rw [e1, (l x).shaped (by omega), (lay_tup (lay_map l xs)).shaped e, any_eqv h]; rfl
theorem EncE.ninT {X : Type} [DecidableEq X] {f : X → D} (h : EncE f) {n : Nat} (l : ∀ x, Lay n (f x)) (x : X) (xs : List X) (e : n + 1 ≤ 64 := by decide) : cmD .notin (f x) (.tuple (xs.map f)) = some (.bool (!decide (x ∈ xs))) := by
  have := h.innT l x xs e
  show ((inD (f x) (.tuple (xs.map f))).map (!·)).map PyData.bool = _
  have e2 : (inD (f x) (.tuple (xs.map f))).map PyData.bool = some (.bool (decide (x ∈ xs))) := this
  cases z : inD (f x) (.tuple (xs.map f)) with
  | none => rw [z] at e2; cases e2
  | some b => rw [z] at e2; cases e2; rfl
theorem EncE.innL {X : Type} [DecidableEq X] {f : X → D} (h : EncE f) {n : Nat} (l : ∀ x, Lay n (f x)) (x : X) (xs : List X) (e : n + 1 ≤ 64 := by decide) : cmD .inn (f x) (.list (xs.map f)) = some (.bool (decide (x ∈ xs))) := by
  show (inD (f x) (.list (xs.map f))).map PyData.bool = _
  have e1 : inD (f x) (.list (xs.map f)) = if SeqAt.shaped (f x) && SeqAt.shaped (.list (xs.map f)) then some ((xs.map f).any fun z => PyData.eqv z (f x)) else none := by
    unfold inD
    cases f x <;> rfl
  rw [e1, (l x).shaped (by omega), (lay_lst (lay_map l xs)).shaped e, any_eqv h]; rfl
theorem EncE.ninL {X : Type} [DecidableEq X] {f : X → D} (h : EncE f) {n : Nat} (l : ∀ x, Lay n (f x)) (x : X) (xs : List X) (e : n + 1 ≤ 64 := by decide) : cmD .notin (f x) (.list (xs.map f)) = some (.bool (!decide (x ∈ xs))) := by
  have := h.innL l x xs e
  show ((inD (f x) (.list (xs.map f))).map (!·)).map PyData.bool = _
  have e2 : (inD (f x) (.list (xs.map f))).map PyData.bool = some (.bool (decide (x ∈ xs))) := this
  cases z : inD (f x) (.list (xs.map f)) with
  | none => rw [z] at e2; cases e2
  | some b => rw [z] at e2; cases e2; rfl
@[simp] theorem eq_int (i j : Int) : cmD .eq (.int i) (.int j) = some (.bool (decide (i = j))) := encE_int.eq lay_int i j
@[simp] theorem ne_int (i j : Int) : cmD .ne (.int i) (.int j) = some (.bool (!decide (i = j))) := encE_int.ne lay_int i j
@[simp] theorem lt_int (i j : Int) : cmD .lt (.int i) (.int j) = some (.bool (decide (i < j))) := rfl
@[simp] theorem le_int (i j : Int) : cmD .le (.int i) (.int j) = some (.bool (decide (i ≤ j))) := rfl
@[simp] theorem gt_int (i j : Int) : cmD .gt (.int i) (.int j) = some (.bool (decide (j < i))) := rfl
@[simp] theorem ge_int (i j : Int) : cmD .ge (.int i) (.int j) = some (.bool (decide (j ≤ i))) := rfl
@[simp] theorem add_int (i j : Int) : op2 .add (.int i) (.int j) = some (.int (i + j)) := rfl
@[simp] theorem sub_int (i j : Int) : op2 .sub (.int i) (.int j) = some (.int (i - j)) := rfl
@[simp] theorem mod_ints (i j : Int) (h : 0 < j) : op2 .mod (.int i) (.int j) = some (.int (i % j)) := by
  show (if 0 < j then some (PyData.int (i % j)) else none) = _
  rw [if_pos h]
@[simp] theorem fdiv_ints (i j : Int) (h : 0 < j) (h2 : j < 1073741824) : op2 .fdiv (.int i) (.int j) = some (.int (i / j)) := by
  show (if 0 < j ∧ j < 1073741824 then some (PyData.int (i / j)) else none) = _
  rw [if_pos ⟨h, h2⟩]
@[simp] theorem mul_ints (i j : Int) (h : -18446744073709551616 < j) (h2 : j < 18446744073709551616) : op2 .mul (.int i) (.int j) = some (.int (i * j)) := by
  show (if (-(2 ^ 64) < i ∧ i < 2 ^ 64) ∨ (-(2 ^ 64) < j ∧ j < 2 ^ 64) then some (PyData.int (i * j)) else none) = _
  rw [if_pos (.inr ⟨h, h2⟩)]
@[simp] theorem mul_ints' (i j : Int) (h : -18446744073709551616 < i) (h2 : i < 18446744073709551616) : op2 .mul (.int i) (.int j) = some (.int (i * j)) := by
  show (if (-(2 ^ 64) < i ∧ i < 2 ^ 64) ∨ (-(2 ^ 64) < j ∧ j < 2 ^ 64) then some (PyData.int (i * j)) else none) = _
  rw [if_pos (.inl ⟨h, h2⟩)]
@[simp] theorem pow_18 : op2 .pow (.int 10) (.int 18) = some (.int 1000000000000000000) := by
  show (if (0 : Int) ≤ 18 ∧ (18 : Int) ≤ 1000000 ∧ (10 : Int).natAbs < 2 ^ 64 then some (PyData.int (10 ^ (18 : Int).toNat)) else none) = _
  rw [if_pos (by decide)]
  rfl
@[simp] theorem int_int_eq (i : Int) : intD (.int i) = some (.int i) := rfl
@[simp] theorem abs_int (i : Int) : absD (.int i) = some (.int (if i < 0 then -i else i)) := rfl
theorem isi_int_int (v : Int) : isiD "int" (.int v) = some (.bool true) := by with_unfolding_all rfl
theorem isi_bool_int (v : Int) : isiD "bool" (.int v) = some (.bool false) := by with_unfolding_all rfl
theorem isi_tuple_tuple (ds : List D) : isiD "tuple" (.tuple ds) = some (.bool true) := by with_unfolding_all rfl
theorem isi_bool_bool (v : Bool) : isiD "bool" (.bool v) = some (.bool true) := by with_unfolding_all rfl
theorem isi_int_tuple (v : List D) : isiD "int" (.tuple v) = some (.bool false) := by with_unfolding_all rfl
theorem two_le : (2 : Nat) ≤ sizeLine := by rw [sizeLine_eq]; decide
theorem size_ge : 16777216 ≤ sizeLine := by rw [sizeLine_eq]; decide
@[simp] theorem le_size_1 : 1 ≤ sizeLine := by rw [sizeLine_eq]; decide
@[simp] theorem le_size_2 : 2 ≤ sizeLine := by rw [sizeLine_eq]; decide
@[simp] theorem le_size_3 : 3 ≤ sizeLine := by rw [sizeLine_eq]; decide
@[simp] theorem le_size_4 : 4 ≤ sizeLine := by rw [sizeLine_eq]; decide
@[simp] theorem le_size_5 : 5 ≤ sizeLine := by rw [sizeLine_eq]; decide
@[simp] theorem le_size_6 : 6 ≤ sizeLine := by rw [sizeLine_eq]; decide
@[simp] theorem le_size_7 : 7 ≤ sizeLine := by rw [sizeLine_eq]; decide
@[simp] theorem le_size_8 : 8 ≤ sizeLine := by rw [sizeLine_eq]; decide
@[simp] theorem le_size_9 : 9 ≤ sizeLine := by rw [sizeLine_eq]; decide
@[simp] theorem le_size_10 : 10 ≤ sizeLine := by rw [sizeLine_eq]; decide
@[simp] theorem le_size_11 : 11 ≤ sizeLine := by rw [sizeLine_eq]; decide
@[simp] theorem le_size_12 : 12 ≤ sizeLine := by rw [sizeLine_eq]; decide
@[simp] theorem le_size_13 : 13 ≤ sizeLine := by rw [sizeLine_eq]; decide
@[simp] theorem le_size_14 : 14 ≤ sizeLine := by rw [sizeLine_eq]; decide
@[simp] theorem le_size_15 : 15 ≤ sizeLine := by rw [sizeLine_eq]; decide
@[simp] theorem le_size_16 : 16 ≤ sizeLine := by rw [sizeLine_eq]; decide
@[simp] theorem le_size_17 : 17 ≤ sizeLine := by rw [sizeLine_eq]; decide
@[simp] theorem le_size_18 : 18 ≤ sizeLine := by rw [sizeLine_eq]; decide
@[simp] theorem le_size_19 : 19 ≤ sizeLine := by rw [sizeLine_eq]; decide
@[simp] theorem le_size_20 : 20 ≤ sizeLine := by rw [sizeLine_eq]; decide
@[simp] theorem le_size_21 : 21 ≤ sizeLine := by rw [sizeLine_eq]; decide
@[simp] theorem le_size_22 : 22 ≤ sizeLine := by rw [sizeLine_eq]; decide
@[simp] theorem le_size_23 : 23 ≤ sizeLine := by rw [sizeLine_eq]; decide
@[simp] theorem ix_list (ds : List D) (i : Int) : ixD (.list ds) (.int i) = atI ds i := rfl
@[simp] theorem ix_tuple (ds : List D) (i : Int) : ixD (.tuple ds) (.int i) = atI ds i := rfl
theorem ixN_nat (n k : Nat) (h : k < n) : ixN n (k : Int) = some k := by
  unfold ixN
  rw [if_pos (by omega), if_pos (by omega)]
  simp
theorem atI_nat {α : Type} (l : List α) (k : Nat) (h : k < l.length) : atI l (k : Int) = l[k]? := by
  unfold atI
  rw [ixN_nat _ _ h]; rfl
@[simp] theorem at_0 {α : Type} (a : α) (l : List α) : atI (a :: l) 0 = some a := atI_nat (a :: l) 0 (by simp)
@[simp] theorem at_1 {α : Type} (a b : α) (l : List α) : atI (a :: b :: l) 1 = some b := atI_nat (a :: b :: l) 1 (by simp)
@[simp] theorem len_list (ds : List D) : lenD (.list ds) = some (.int ds.length) := rfl
@[simp] theorem len_tuple (ds : List D) : lenD (.tuple ds) = some (.int ds.length) := rfl
@[simp] theorem tuple_list (ds : List D) : tupleD (.list ds) = some (.tuple ds) := rfl
@[simp] theorem tuple_tuple (ds : List D) : tupleD (.tuple ds) = some (.tuple ds) := rfl
@[simp] theorem list_list (ds : List D) : listD (.list ds) = some (.list ds) := rfl
@[simp] theorem list_tuple (ds : List D) : listD (.tuple ds) = some (.list ds) := rfl
end EN

/-! == CD3 == -/
set_option Elab.async false
set_option linter.all false
set_option maxRecDepth 100000
set_option maxHeartbeats 4000000
set_option autoImplicit false
/-! CD3: what the forms say of good orders. -/
namespace EN
open PySem PySem.Spec PyProof.Rows L2
theorem whole_int (v lo hi : Int) : g_is_whole [.int v, .int lo, .int hi] = .ok (.bool (decide (lo ≤ v) && decide (v ≤ hi))) := by
  by_cases h : lo ≤ v <;> simp [g_is_whole, p_is_whole, PF.var_f, startD, isi_int_int, isi_bool_int, h]
def inR (n x : Int) : Bool := decide (0 ≤ x) && decide (x ≤ n - 1)
theorem whole_in (v n : Int) : g_is_whole [.int v, .int 0, .int (n - 1)] = .ok (.bool (inR n v)) := whole_int v 0 (n - 1)
theorem all_bools (bs : List Bool) : allD (.list (bs.map .bool)) = some (.bool (bs.all id)) := by
  have : asBls (bs.map .bool) = some bs := by
    induction bs with
    | nil => rfl
    | cons b bs ih =>
      unfold asBls at ih ⊢
      rw [List.map_cons, List.mapM_cons, ih]; rfl
  show (asBls (bs.map .bool)).map _ = _
  rw [this]; rfl
theorem any_bools (bs : List Bool) : anyD (.list (bs.map .bool)) = some (.bool (bs.any id)) := by
  have : asBls (bs.map .bool) = some bs := by
    induction bs with
    | nil => rfl
    | cons b bs ih =>
      unfold asBls at ih ⊢
      rw [List.map_cons, List.mapM_cons, ih]; rfl
  show (asBls (bs.map .bool)).map _ = _
  rw [this]; rfl
/-- all of some tests over things of one kind -/
theorem all_map {X : Type} (t : X → Bool) (xs : List X) : allD (.list (xs.map fun x => (.bool (t x) : D))) = some (.bool (xs.all t)) := by
  have := all_bools (xs.map t)
  rw [List.map_map] at this
  rw [show (fun x => (.bool (t x) : D)) = PyData.bool ∘ t from rfl, this]
  simp [List.all_map]
theorem any_map {X : Type} (t : X → Bool) (xs : List X) : anyD (.list (xs.map fun x => (.bool (t x) : D))) = some (.bool (xs.any t)) := by
  have := any_bools (xs.map t)
  rw [List.map_map] at this
  rw [show (fun x => (.bool (t x) : D)) = PyData.bool ∘ t from rfl, this]
  simp [List.any_map]
def pairOk (n : Int) (p : IP) : Bool := inR n p.1 && (inR n p.2 && !decide (p.1 = p.2))
theorem pair_pair (n : Int) (p : IP) : g_is_pair [.int n, pairD p] = .ok (.bool (pairOk n p)) := by
  obtain ⟨a, b⟩ := p
  have e := lcP_map (vs := [2]) (tg := tgN 2) (mt := .val true) (me := .call 3 g_is_whole (.cons (.var 2) (.cons (.val (.int 0)) (.cons (.op2 false false (op2 .sub) (.var 0) (.val (.int 1))) .nil))))
    (ρ := [some (.int n), some (pairD (a, b)), none]) PyData.int (fun _ => true) (fun x => .bool (inR n x)) [a, b] [] (fun x _ => ⟨_, rfl, rfl, fun _ => by simp [PF.var_f, whole_in]⟩) (by rw [sizeLine_eq]; simp)
  simp only [List.map_cons, List.map_nil, List.nil_append, List.filter_cons, List.filter_nil, if_true] at e
  have e2 : allD (.list [.bool (inR n a), .bool (inR n b)]) = some (.bool (inR n a && inR n b)) := by
    have := all_bools [inR n a, inR n b]
    simpa using this
  unfold pairOk
  cases h : inR n a && inR n b with
  | false =>
    simp [g_is_pair, p_is_pair, PF.var_f, startD, pairD, isi_tuple_tuple] at e ⊢
    rw [e]
    simp [e2, h]
    have := Bool.and_eq_false_iff.mp h
    rcases this with h1 | h1 <;> simp [h1]
  | true =>
    simp [g_is_pair, p_is_pair, PF.var_f, startD, pairD, isi_tuple_tuple] at e ⊢
    rw [e]
    have h' := Bool.and_eq_true_iff.mp h
    rw [h'.1, h'.2] at e2
    simp [e2, h'.1, h'.2]
/-! ### good orders -/
structure Good (n : Int) (ps : List IP) : Prop where
  lo : 1 ≤ n
  hi : n ≤ 6
  rg : ∀ p, p ∈ ps → 0 ≤ p.1 ∧ p.1 < n ∧ 0 ≤ p.2 ∧ p.2 < n
  irr : ∀ p, p ∈ ps → p.1 ≠ p.2
  asc : ps.Pairwise fun a b => ltP a b = true
  tr : ∀ a b c, (a, b) ∈ ps → (b, c) ∈ ps → (a, c) ∈ ps
theorem asc_len (f : IP → Int) : ∀ (ps : List IP) (lo hi : Int), ps.Pairwise (fun a b => f a < f b) → (∀ p, p ∈ ps → lo ≤ f p ∧ f p < hi) → lo ≤ hi → (ps.length : Int) ≤ hi - lo
  | [], lo, hi, _, _, h => by simp; omega
  | p :: ps, lo, hi, h, hr, hl => by
    have h' := List.pairwise_cons.mp h
    have hp := hr p List.mem_cons_self
    have := asc_len f ps (f p + 1) hi h'.2 (fun q hq => ⟨by have := h'.1 q hq; omega, (hr q (List.mem_cons_of_mem _ hq)).2⟩) (by omega)
    rw [List.length_cons]
    omega
theorem ltP_iff {a b : IP} : ltP a b = true ↔ a.1 < b.1 ∨ (a.1 = b.1 ∧ a.2 < b.2) := by simp [ltP]
theorem len36 {ps : List IP} (asc : ps.Pairwise fun a b => ltP a b = true) (rg : ∀ p, p ∈ ps → 0 ≤ p.1 ∧ p.1 < 6 ∧ 0 ≤ p.2 ∧ p.2 < 6) : ps.length ≤ 36 := by
  have h1 := asc_len (fun p => 6 * p.1 + p.2) ps 0 36 (List.Pairwise.imp_of_mem (fun {a b} ha hb h => by
    have := ltP_iff.mp h
    have := rg a ha
    have := rg b hb
    show 6 * a.1 + a.2 < 6 * b.1 + b.2
    omega) asc) (fun p hp => by
    have := rg p hp
    show 0 ≤ 6 * p.1 + p.2 ∧ 6 * p.1 + p.2 < 36
    omega) (by decide)
  omega
theorem Good.len {n : Int} {ps : List IP} (g : Good n ps) : ps.length ≤ 36 := len36 g.asc fun p hp => by
  have := g.rg p hp
  have := g.hi
  omega
theorem Good.pairOk {n : Int} {ps : List IP} (g : Good n ps) {p : IP} (hp : p ∈ ps) : pairOk n p = true := by
  have h1 := g.rg p hp
  have h2 := g.irr p hp
  unfold EN.pairOk inR
  simp [h2]
  omega
theorem cut1 (ds : List D) : cutL ds (some 1) none = ds.drop 1 := by
  have e1 : HT.sIx ds.length 0 (some 1) = min 1 ds.length := HT.sIx_nat ds.length 0 1
  have e2 : HT.sIx ds.length ds.length none = ds.length := rfl
  unfold cutL
  rw [e1, e2]
  cases ds with
  | nil => rfl
  | cons d ds =>
    rw [show min 1 (d :: ds).length = 1 by simp]
    exact List.take_of_length_le (by simp)
@[simp] theorem slice1T (ds : List D) : sliceD (some 1) none (.tuple ds) = some (.tuple ds.tail) := by
  show some (PyData.tuple (cutL ds (some 1) none)) = _
  rw [cut1, List.drop_one]
/-- a comprehension without a test -/
theorem lcP_all {X : Type} {vs : List Nat} {tg : Tg} {me : PF D} {ρ : Lo} (enc : X → D) (e : X → D) (xs : List X) (h : ∀ x, x ∈ xs → ∃ ρ', tg (enc x) (wipeD ρ vs) = some ρ' ∧ me.f ρ' = .ok (e x)) (hl : xs.length ≤ sizeLine) :
    PF.lcP vs tg (.val true) me (xs.map enc) [] ρ = .ok (xs.map e) := by
  rw [lcP_map enc (fun _ => true) e xs [] (fun x hx => by
    obtain ⟨ρ', h1, h2⟩ := h x hx
    exact ⟨ρ', h1, rfl, fun _ => h2⟩) (by simpa using hl), List.filter_eq_self.mpr (fun _ _ => rfl), List.nil_append]
theorem zip_map {X : Type} (f : X → D) : ∀ xs ys : List X, zipL (xs.map f) (ys.map f) = (xs.zip ys).map fun q => .tuple [f q.1, f q.2]
  | [], ys => by cases ys <;> rfl
  | x :: xs, [] => rfl
  | x :: xs, y :: ys => by
    have := zip_map f xs ys
    unfold zipL at this ⊢
    rw [List.map_cons, List.map_cons, List.zipWith_cons_cons, this]; rfl
theorem lt_pair (p q : IP) : cmD .lt (pairD p) (pairD q) = some (.bool (ltP p q)) := by
  obtain ⟨a, b⟩ := p
  obtain ⟨c, d⟩ := q
  show some (PyData.bool (HT.lexLt [a, b] [c, d])) = _
  congr 2
  unfold HT.lexLt HT.lexLt HT.lexLt ltP
  by_cases h : a = c
  · subst h; by_cases h2 : b = d <;> simp [h2]
  · simp [h]
def risingB (ps : List IP) : Bool := (ps.zip ps.tail).all fun q => ltP q.1 q.2
theorem zip_len (xs : List IP) : (xs.zip xs.tail).length ≤ xs.length := by rw [List.length_zip]; omega
theorem rising_prs (ps : List IP) (h : ps.length ≤ 16777216) : g_is_rising [prsD ps] = .ok (.bool (risingB ps)) := by
  have hz : (ps.zip ps.tail).length ≤ sizeLine := by
    have := zip_len ps
    have := size_ge
    omega
  have e := fun ρ => lcP_all (vs := [1, 2]) (tg := tgT [1, 2]) (me := .op2 false false (cmD .lt) (.var 1) (.var 2)) (ρ := [some ρ, none, none])
    (fun q : IP × IP => (.tuple [pairD q.1, pairD q.2] : D)) (fun q => .bool (ltP q.1 q.2)) (ps.zip ps.tail) (fun x _ => ⟨_, rfl, by simp [lt_pair]⟩) hz
  simp [g_is_rising, p_is_rising, startD, prsD, zipD, zip_map, ← List.map_tail, e, all_map, risingB]
theorem rising_of {ps : List IP} (h : ps.Pairwise fun a b => ltP a b = true) : risingB ps = true := by
  unfold risingB
  induction ps with
  | nil => rfl
  | cons p ps ih =>
    have h' := List.pairwise_cons.mp h
    cases ps with
    | nil => rfl
    | cons q ps =>
      have := ih h'.2
      simp only [List.tail_cons, List.zip_cons_cons, List.all_cons, Bool.and_eq_true] at this ⊢
      exact ⟨h'.1 q List.mem_cons_self, this⟩
theorem follows_prs (ps : List IP) (h : ps.length ≤ 4096) : g_follows [prsD ps] = .ok (.bool (ps.all fun p => (ps.filter fun q => decide (q.1 = p.2)).all fun q => decide ((p.1, q.2) ∈ ps))) := by
  have e := lcP2_mapN (vs := [1, 2, 3, 4]) (tg := tgT [1, 2]) (mi1 := .items (.var 0)) (vs1 := [3, 4]) (tg1 := tgT [3, 4]) (mt := .bool (.op2 false false (cmD .eq) (.var 3) (.var 2))) (me := .op2 false false (cmD .inn) (.tup (.cons (.var 1) (.cons (.var 4) .nil))) (.var 0))
    (ρ := [some (prsD ps), none, none, none, none]) 4096 4096 pairD pairD (fun _ => ps) (fun p q => decide (q.1 = p.2)) (fun p q => .bool (decide ((p.1, q.2) ∈ ps))) ps (fun p _ => ⟨_, rfl, rfl, fun q _ => ⟨_, rfl, by simp, fun _ => by
      have := encE_pair.innT lay_pair (p.1, q.2) ps
      simp [prsD]
      rw [show (PyData.tuple [.int p.1, .int q.2] : D) = pairD (p.1, q.2) from rfl, this]; simp⟩⟩) h (fun _ _ => h)
  have e2 : ∀ (L : List IP) , (L.flatMap fun p => (ps.filter fun q => decide (q.1 = p.2)).map fun q => (PyData.bool (decide ((p.1, q.2) ∈ ps)) : D)) = (L.flatMap fun p => (ps.filter fun q => decide (q.1 = p.2)).map fun q => decide ((p.1, q.2) ∈ ps)).map .bool := fun L => by
    rw [List.map_flatMap]
    simp [Function.comp_def]
  have e3 := all_bools (ps.flatMap fun p => (ps.filter fun q => decide (q.1 = p.2)).map fun q => decide ((p.1, q.2) ∈ ps))
  rw [← e2] at e3
  simp only [g_follows, p_follows, startD] 
  simp [prsD] at e ⊢
  rw [e]
  simp only [R.bind_ok_eq]
  rw [e3]
  simp [List.all_flatMap, List.all_map, Function.comp_def]
theorem Good.followsB {n : Int} {ps : List IP} (g : Good n ps) : (ps.all fun p => (ps.filter fun q => decide (q.1 = p.2)).all fun q => decide ((p.1, q.2) ∈ ps)) = true := by
  rw [List.all_eq_true]
  intro p hp
  rw [List.all_eq_true]
  intro q hq
  obtain ⟨h1, h2⟩ := List.mem_filter.mp hq
  have h2 : q.1 = p.2 := of_decide_eq_true h2
  exact decide_eq_true (g.tr p.1 p.2 q.2 hp (by rw [← h2]; exact h1))
theorem good_o {n : Int} {ps : List IP} (g : Good n ps) : g_is_good [oD n ps] = .ok (.bool true) := by
  have hl := g.len
  have e := lcP_all (vs := [1]) (tg := tgN 1) (me := .call 2 g_is_pair (.cons (.op2 false false ixD (.var 0) (.val (.int 0))) (.cons (.var 1) .nil))) (ρ := [some (oD n ps), none])
    pairD (fun p => .bool (pairOk n p)) ps (fun p _ => ⟨_, rfl, by simp [oD, pair_pair]⟩) (by have := size_ge; omega)
  have w1 : g_is_whole [.int n, .int 1, .int 6] = .ok (.bool true) := by
    have := g.lo; have := g.hi
    rw [whole_int]; simp; omega
  have a1 : ps.all (pairOk n) = true := List.all_eq_true.mpr fun p hp => g.pairOk hp
  have r1 := rising_prs ps (by omega)
  have f1 := follows_prs ps (by omega)
  rw [rising_of g.asc] at r1
  rw [g.followsB] at f1
  simp only [g_is_good, p_is_good, startD]
  simp [oD, prsD, isi_tuple_tuple, w1] at e r1 f1 ⊢
  simp [e, all_map, a1, r1, f1]
theorem need_o {n : Int} {ps : List IP} (g : Good n ps) : g_need_order [oD n ps] = .ok .none := by
  simp [g_need_order, p_need_order, startD, good_o g]
end EN

/-! == CD4 == -/
set_option Elab.async false
set_option linter.all false
set_option maxRecDepth 100000
set_option maxHeartbeats 4000000
set_option autoImplicit false
/-! CD4: sorted lists of pairs; orders joined. -/
namespace EN
open PySem PySem.Spec PyProof.Rows L2 PySem.W
def leP (a b : IP) : Bool := !ltP b a
theorem ltP_lin : Lin ltP := by
  refine ⟨fun x => ?_, fun x y z h1 h2 => ?_, fun x y h => ?_⟩
  · cases e : ltP x x with
    | false => rfl
    | true => have := ltP_iff.mp e; omega
  · have := ltP_iff.mp h1; have := ltP_iff.mp h2; apply ltP_iff.mpr; omega
  · by_cases h1 : x.1 = y.1
    · have h2 : x.2 ≠ y.2 := fun z => h (Prod.ext h1 z)
      rcases Int.lt_or_gt_of_ne h2 with h3 | h3
      · exact .inl (ltP_iff.mpr (.inr ⟨h1, h3⟩))
      · exact .inr (ltP_iff.mpr (.inr ⟨h1.symm, h3⟩))
    · rcases Int.lt_or_gt_of_ne h1 with h3 | h3
      · exact .inl (ltP_iff.mpr (.inl h3))
      · exact .inr (ltP_iff.mpr (.inl h3))
theorem dle_pair (a b : IP) : dataLe false id (pairD a) (pairD b) = leP a b := by
  have h := congrFun (congrFun (dataLe_ii (β := IP) (fun p => p.1) (fun p => p.2)) a) b
  have h1 : dataLe false id (pairD a) (pairD b) = dataLe false (fun p : IP => (.tuple [.int p.1, .int p.2] : D)) a b := rfl
  rw [h1, h]
  unfold leP
  by_cases e : ltP b a = true
  · rw [e]
    have := ltP_iff.mp e
    simp; omega
  · have e' : ltP b a = false := by simpa using e
    rw [e']
    have : ¬ (b.1 < a.1 ∨ (b.1 = a.1 ∧ b.2 < a.2)) := fun z => e (ltP_iff.mpr z)
    simp; omega
/-- sorted pairs -/
def srtP (ps : List IP) : List IP := ps.mergeSort leP
theorem sortL_map (ps : List IP) : sortL (ps.map pairD) = (srtP ps).map pairD := by
  unfold sortL srtP
  exact (List.map_mergeSort fun a _ b _ => (dle_pair a b).symm).symm
theorem alike_pairs (ps : List IP) : alikeB (ps.map pairD) = true := by
  unfold alikeB
  rw [List.all_eq_true]
  intro d hd
  rw [List.all_eq_true]
  intro d' hd'
  obtain ⟨p, _, rfl⟩ := List.mem_map.mp hd
  obtain ⟨q, _, rfl⟩ := List.mem_map.mp hd'
  rfl
theorem sortable_pairs (ps : List IP) : sortableB (ps.map pairD) = true := by
  unfold sortableB
  refine Bool.or_eq_true_iff.mpr (.inl (List.all_eq_true.mpr fun d hd => ?_))
  obtain ⟨p, _, rfl⟩ := List.mem_map.mp hd
  rfl
theorem shallow_of {n : Nat} {ds : List D} (h : ∀ d, d ∈ ds → Lay n d) (e : n ≤ 50 := by decide) : shallowB ds = true := by
  unfold shallowB
  rw [List.all_eq_true]
  intro d hd
  rw [(h d hd).lay, decide_eq_true (Nat.le_trans (h d hd).dep e)]; rfl
theorem sorted_pairs (ps : List IP) : sortedD (.list (ps.map pairD)) = some (.list ((srtP ps).map pairD)) := by
  show (if alikeB (ps.map pairD) && sortableB (ps.map pairD) && shallowB (ps.map pairD) then some (PyData.list (sortL (ps.map pairD))) else none) = _
  rw [alike_pairs, sortable_pairs, shallow_of (lay_map lay_pair ps), sortL_map]; rfl
theorem sorted_pairsT (ps : List IP) : sortedD (.tuple (ps.map pairD)) = some (.list ((srtP ps).map pairD)) := by
  show (if alikeB (ps.map pairD) && sortableB (ps.map pairD) && shallowB (ps.map pairD) then some (PyData.list (sortL (ps.map pairD))) else none) = _
  rw [alike_pairs, sortable_pairs, shallow_of (lay_map lay_pair ps), sortL_map]; rfl
theorem srtP_perm (ps : List IP) : (srtP ps).Perm ps := List.mergeSort_perm ps leP
theorem srtP_mem {ps : List IP} {p : IP} : p ∈ srtP ps ↔ p ∈ ps := (srtP_perm ps).mem_iff
theorem srtP_len (ps : List IP) : (srtP ps).length = ps.length := List.length_mergeSort ps
theorem leP_trans (a b c : IP) : leP a b = true → leP b c = true → leP a c = true := by
  unfold leP
  intro h1 h2
  have h1 : ltP b a = false := by simpa using h1
  have h2 : ltP c b = false := by simpa using h2
  have n1 : ¬ (b.1 < a.1 ∨ (b.1 = a.1 ∧ b.2 < a.2)) := fun z => by rw [ltP_iff.mpr z] at h1; cases h1
  have n2 : ¬ (c.1 < b.1 ∨ (c.1 = b.1 ∧ c.2 < b.2)) := fun z => by rw [ltP_iff.mpr z] at h2; cases h2
  have n3 : ¬ ltP c a = true := fun z => by have := ltP_iff.mp z; omega
  simpa using n3
theorem leP_total (a b : IP) : (leP a b || leP b a) = true := by
  unfold leP
  cases h1 : ltP b a with
  | false => rfl
  | true =>
    cases h2 : ltP a b with
    | false => rfl
    | true =>
      have := ltP_iff.mp h1
      have := ltP_iff.mp h2
      omega
theorem srtP_asc {ps : List IP} (nd : ps.Nodup) : (srtP ps).Pairwise fun a b => ltP a b = true := by
  have h1 : (srtP ps).Pairwise fun a b => leP a b = true := List.pairwise_mergeSort leP_trans leP_total ps
  have h2 : (srtP ps).Nodup := (srtP_perm ps).nodup_iff.mpr nd
  refine (h1.and h2).imp fun {a b} h => ?_
  have h3 : ltP b a = false := by simpa [leP] using h.1
  rcases ltP_lin.total a b h.2 with z | z
  · exact z
  · rw [h3] at z; cases z
/-! ### turned, both, part -/
def swapP (p : IP) : IP := (p.2, p.1)
theorem turned_of_o (n : Int) (ps : List IP) (h : ps.length ≤ 16777216) : g_turned_of [oD n ps] = .ok (oD n (srtP (ps.map swapP))) := by
  have e := lcP_all (vs := [1, 2]) (tg := tgT [1, 2]) (me := .tup (.cons (.var 2) (.cons (.var 1) .nil))) (ρ := [some (oD n ps), none, none]) pairD (fun p => pairD (swapP p)) ps (fun p _ => ⟨_, rfl, by simp [pairD, swapP]⟩) (by have := size_ge; omega)
  have s := sorted_pairs (ps.map swapP)
  rw [List.map_map] at s
  simp only [g_turned_of, p_turned_of, startD]
  simp [oD, prsD] at e ⊢
  rw [e]
  rw [show (fun p => pairD (swapP p)) = pairD ∘ swapP from rfl]
  simp [s]
theorem turned_o {n : Int} {ps : List IP} (g : Good n ps) : g_turned [oD n ps] = .ok (oD n (srtP (ps.map swapP))) := by
  have := g.len
  simp [g_turned, p_turned, startD, need_o g, turned_of_o n ps (by omega)]
def shiftP (m : Int) (p : IP) : IP := (p.1 + m, p.2 + m)
def rangeI (n : Int) : List Int := (List.range n.toNat).map fun k : Nat => ((k : Nat) : Int)
theorem rng_eq (n : Int) : rngL 0 n = (rangeI n).map .int := by
  unfold rngL rangeI
  simp
theorem rng1_eq (n : Int) (h : 0 ≤ n ∧ n ≤ 1000000) : rngD1 [.int n] = some ((rangeI n).map .int) := by
  show (if -(2 ^ 62) ≤ n ∧ n < 2 ^ 62 then some (rngL 0 n) else none) = _
  rw [if_pos (by omega), rng_eq]
theorem mem_rangeI {n x : Int} : x ∈ rangeI n ↔ 0 ≤ x ∧ x < n := by
  unfold rangeI
  rw [List.mem_map]
  constructor
  · rintro ⟨k, hk, rfl⟩
    have := List.mem_range.mp hk
    exact ⟨by omega, by omega⟩
  · rintro ⟨h1, h2⟩
    exact ⟨x.toNat, List.mem_range.mpr (by omega), by omega⟩
theorem len_rangeI (n : Int) : (rangeI n).length = n.toNat := by simp [rangeI]
/-- all pairs of a thing of the one and one of the other -/
def crossP (m k : Int) : List IP := (rangeI m).flatMap fun here => (rangeI k).map fun there => (here, there + m)
def bothP (m : Int) (ps : List IP) (k : Int) (qs : List IP) (over : Bool) : List IP := ps ++ qs.map (shiftP m) ++ (if over then crossP m k else [])
theorem raiseI_f (x : Str) (m : PF D) (ρ : Lo) : (PS.raiseI x m).f ρ = .of (m.f ρ) ρ fun d => match asI d with
  | some n => if n.natAbs.log2 < 1000 then .ex x ρ else .no
  | none => .no := rfl
@[simp] theorem raise6 (x : Str) (ρ : Lo) : (PS.raiseI x (.val (.int 6))).f ρ = .ex x ρ := by
  rw [raiseI_f]
  show (if (6 : Int).natAbs.log2 < 1000 then RS.ex x ρ else .no) = _
  rw [if_pos (by decide)]
theorem add_lists (a b : List D) (h : a.length + b.length ≤ 16777216) : op2 .add (.list a) (.list b) = some (.list (a ++ b)) := by
  show (if a.length + b.length ≤ sizeLine then some (PyData.list (a ++ b)) else none) = _
  rw [if_pos (by have := size_ge; omega)]
theorem add_tups (a b : List D) (h : a.length + b.length ≤ 16777216) : op2 .add (.tuple a) (.tuple b) = some (.tuple (a ++ b)) := by
  show (if a.length + b.length ≤ sizeLine then some (PyData.tuple (a ++ b)) else none) = _
  rw [if_pos (by have := size_ge; omega)]
theorem len_cross (m k : Int) (hm : 0 ≤ m ∧ m ≤ 6) (hk : 0 ≤ k ∧ k ≤ 6) : (crossP m k).length ≤ 36 := by
  unfold crossP
  rw [List.length_flatMap]
  have := sum_le (f := fun here : Int => ((rangeI k).map fun there => ((here, there + m) : IP)).length) (m := 6) (xs := rangeI m) fun x _ => by
    rw [List.length_map, len_rangeI]; omega
  have h2 := len_rangeI m
  have h3 : (rangeI m).length * 6 ≤ 6 * 6 := Nat.mul_le_mul_right 6 (by omega)
  exact Nat.le_trans this h3
theorem both_o (m k : Int) (ps qs : List IP) (over : Bool) (hm : 0 ≤ m ∧ m ≤ 6) (hk : 0 ≤ k ∧ k ≤ 6) (hp : ps.length ≤ 36) (hq : qs.length ≤ 36) : g_both [oD m ps, oD k qs, .bool over] = if m + k ≤ 6 then .ok (oD (m + k) (srtP (bothP m ps k qs over))) else .ex "TooMany" := by
  have hz := size_ge
  have e1 := lcP_all (vs := [5, 6]) (tg := tgT [5, 6]) (me := .tup (.cons (.op2 false false (op2 .add) (.var 5) (.var 3)) (.cons (.op2 false false (op2 .add) (.var 6) (.var 3)) .nil))) (ρ := [some (oD m ps), some (oD k qs), some (.bool over), some (.int m), none, none, none]) pairD (fun p => pairD (shiftP m p)) qs (fun p _ => ⟨_, rfl, by simp [pairD, shiftP]⟩) (by omega)
  have e2 := fun d => lcP2_mapN (vs := [5, 6]) (tg := tgN 5) (mi1 := .rng1 (.cons (.op2 false false ixD (.var 1) (.val (.int 0))) .nil)) (vs1 := [6]) (tg1 := tgN 6) (mt := .val true) (me := .tup (.cons (.var 5) (.cons (.op2 false false (op2 .add) (.var 6) (.var 3)) .nil)))
    (ρ := [some (oD m ps), some (oD k qs), some (.bool over), some (.int m), some d, none, none]) 6 6 PyData.int PyData.int (fun _ => rangeI k) (fun _ _ => true) (fun a b => pairD (a, b + m)) (rangeI m)
    (fun a _ => ⟨_, rfl, by simp [oD, rng1_eq k (by omega)], fun b _ => ⟨_, rfl, rfl, fun _ => by simp [pairD]⟩⟩) (by rw [len_rangeI]; omega) (fun _ _ => by rw [len_rangeI]; omega)
  have f : ∀ L : List Int, (L.flatMap fun a => ((rangeI k).filter fun _ => true).map fun b => pairD (a, b + m)) = (L.flatMap fun here => (rangeI k).map fun there => ((here, there + m) : IP)).map pairD := fun L => by
    rw [List.map_flatMap, List.filter_eq_self.mpr (fun _ _ => rfl)]
    simp [Function.comp_def]
  rw [f] at e2
  have l1 : (ps.map pairD).length + (qs.map fun p => pairD (shiftP m p)).length ≤ 16777216 := by simp; omega
  have c1 := add_lists _ _ l1
  have l3 := len_cross m k hm hk
  have q1 : (qs.map fun p => pairD (shiftP m p)) = (qs.map (shiftP m)).map pairD := by simp [Function.comp_def]
  by_cases h6 : m + k ≤ 6
  · have h6' : ¬ 6 < m + k := by omega
    rw [if_pos h6]
    simp only [g_both, p_both, startD]
    simp [oD, prsD, h6'] at e1 e2 c1 ⊢
    rw [e1]
    simp [c1]
    cases over with
    | false =>
      have s := sorted_pairs (ps ++ qs.map (shiftP m))
      rw [List.map_append, List.map_map] at s
      have q2 : (fun p => pairD (shiftP m p)) = pairD ∘ shiftP m := rfl
      rw [q2]
      simp [bothP, s]
    | true =>
      have c2 := add_lists (ps.map pairD ++ (qs.map fun p => pairD (shiftP m p))) ((crossP m k).map pairD) (by simp; omega)
      have s := sorted_pairs (ps ++ qs.map (shiftP m) ++ crossP m k)
      rw [List.map_append, List.map_append, ← q1] at s
      have e3 := e2 (.list (ps.map pairD ++ (qs.map fun p => pairD (shiftP m p))))
      rw [rng1_eq m (by omega)]
      rw [show ((rangeI m).flatMap fun here => (rangeI k).map fun there => ((here, there + m) : IP)) = crossP m k from rfl] at e3
      simp only [R.ofO_some_eq, RS.of_ok, R.bind_ok_eq, e3, c2]
      simp only [List.append_assoc] at s
      simp [s, bothP]
  · have h6' : 6 < m + k := by omega
    rw [if_neg h6]
    simp only [g_both, p_both, startD]
    simp [oD, h6']
end EN

/-! == CD5 == -/
set_option Elab.async false
set_option linter.all false
set_option maxRecDepth 100000
set_option maxHeartbeats 4000000
set_option autoImplicit false
/-! CD5: lots, parts. -/
namespace EN
open PySem PySem.Spec PyProof.Rows L2 PySem.W
def risingIB (r : List Int) : Bool := (r.zip r.tail).all fun q => decide (q.1 < q.2)
theorem rising_row (r : List Int) (h : r.length ≤ 16777216) : g_is_rising [rowD r] = .ok (.bool (risingIB r)) := by
  have hz : (r.zip r.tail).length ≤ sizeLine := by
    have : (r.zip r.tail).length ≤ r.length := by rw [List.length_zip]; omega
    have := size_ge
    omega
  have e := fun ρ => lcP_all (vs := [1, 2]) (tg := tgT [1, 2]) (me := .op2 false false (cmD .lt) (.var 1) (.var 2)) (ρ := [some ρ, none, none])
    (fun q : Int × Int => (.tuple [.int q.1, .int q.2] : D)) (fun q => .bool (decide (q.1 < q.2))) (r.zip r.tail) (fun x _ => ⟨_, rfl, by simp⟩) hz
  have a := all_map (fun q : Int × Int => decide (q.1 < q.2)) (r.zip r.tail)
  simp [g_is_rising, p_is_rising, startD, rowD, zipD, zip_map, ← List.map_tail, e, a, risingIB]
theorem risingI_of {r : List Int} (h : r.Pairwise (· < ·)) : risingIB r = true := by
  unfold risingIB
  induction r with
  | nil => rfl
  | cons p ps ih =>
    have h' := List.pairwise_cons.mp h
    cases ps with
    | nil => rfl
    | cons q ps =>
      have := ih h'.2
      simp only [List.tail_cons, List.zip_cons_cons, List.all_cons, Bool.and_eq_true] at this ⊢
      exact ⟨decide_eq_true (h'.1 q List.mem_cons_self), this⟩
structure Lot (n : Int) (r : List Int) : Prop where
  rg : ∀ x, x ∈ r → 0 ≤ x ∧ x < n
  asc : r.Pairwise (· < ·)
theorem ascI_len : ∀ (r : List Int) (lo hi : Int), r.Pairwise (· < ·) → (∀ x, x ∈ r → lo ≤ x ∧ x < hi) → lo ≤ hi → (r.length : Int) ≤ hi - lo
  | [], lo, hi, _, _, h => by simp; omega
  | p :: ps, lo, hi, h, hr, hl => by
    have h' := List.pairwise_cons.mp h
    have hp := hr p List.mem_cons_self
    have := ascI_len ps (p + 1) hi h'.2 (fun q hq => ⟨by have := h'.1 q hq; omega, (hr q (List.mem_cons_of_mem _ hq)).2⟩) (by omega)
    rw [List.length_cons]
    omega
theorem Lot.len {n : Int} {r : List Int} (h : Lot n r) (hn : 0 ≤ n) : (r.length : Int) ≤ n := by
  have := ascI_len r 0 n h.asc h.rg hn
  omega
theorem is_lot_row (n : Int) (r : List Int) (h : r.length ≤ 16777216) : g_is_lot [.int n, rowD r] = .ok (.bool (r.all (inR n) && risingIB r)) := by
  have e := lcP_all (vs := [2]) (tg := tgN 2) (me := .call 3 g_is_whole (.cons (.var 2) (.cons (.val (.int 0)) (.cons (.op2 false false (op2 .sub) (.var 0) (.val (.int 1))) .nil)))) (ρ := [some (.int n), some (rowD r), none])
    PyData.int (fun x => .bool (inR n x)) r (fun x _ => ⟨_, rfl, by simp [whole_in]⟩) (by have := size_ge; omega)
  have r1 := rising_row r h
  simp only [g_is_lot, p_is_lot, startD]
  simp [rowD, isi_tuple_tuple] at e r1 ⊢
  simp [e, all_map]
  cases hc : r.all (inR n) with
  | false => simp
  | true => simp [r1]
theorem need_lot_row {n : Int} {ps : List IP} {r : List Int} (h : Lot n r) (hn : 0 ≤ n ∧ n ≤ 1000) : g_need_lot [oD n ps, rowD r] = .ok .none := by
  have hl := h.len hn.1
  have e := is_lot_row n r (by omega)
  have a : r.all (inR n) = true := List.all_eq_true.mpr fun x hx => by
    have := h.rg x hx
    unfold inR; simp; omega
  rw [a, risingI_of h.asc] at e
  simp [g_need_lot, p_need_lot, startD, oD] at e ⊢
  simp [e]
/-! ### places -/
def idxI (r : List Int) (x : Int) : Int := ((r.findIdx fun z => decide (z = x) : Nat) : Int)
theorem findIdx_eqv (r : List Int) (x : Int) (h : x ∈ r) : ((r.map (PyData.int : Int → D)).findIdx? fun z => PyData.eqv z (.int x)) = some (r.findIdx fun z => decide (z = x)) := by
  induction r with
  | nil => cases h
  | cons y r ih =>
    rw [List.map_cons, List.findIdx?_cons, List.findIdx_cons]
    have e : PyData.eqv (.int y : D) (.int x) = decide (y = x) := encE_int y x
    rw [e]
    by_cases hy : y = x
    · simp [hy]
    · have hx : x ∈ r := by
        rcases List.mem_cons.mp h with h | h
        · exact absurd h.symm hy
        · exact h
      simp [hy, ih hx]
theorem index_row (r : List Int) (x : Int) (h : x ∈ r) : indexD (rowD r) (.int x) = some (.int (idxI r x)) := by
  show (if SeqAt.shaped (.list (r.map .int)) && SeqAt.shaped (.int x : D) then ((r.map (PyData.int : Int → D)).findIdx? fun z => PyData.eqv z (.int x)).map fun j => (.int (j : Nat) : D) else none) = _
  rw [(lay_lst (lay_map lay_int r)).shaped, (lay_int x).shaped, findIdx_eqv r x h]; rfl
def partP (r : List Int) (ps : List IP) : List IP := (ps.filter fun p => decide (p.1 ∈ r) && decide (p.2 ∈ r)).map fun p => (idxI r p.1, idxI r p.2)
theorem part_of_o (n : Int) (ps : List IP) (r : List Int) (h : ps.length ≤ 16777216) : g_part_of [oD n ps, rowD r] = .ok (oD r.length (srtP (partP r ps))) := by
  have e := lcP_map (vs := [3, 4]) (tg := tgT [3, 4]) (mt := .andB (.bool (.op2 false false (cmD .inn) (.var 3) (.var 1))) (.bool (.op2 false false (cmD .inn) (.var 4) (.var 1)))) (me := .tup (.cons (.meth "seq" false indexD (.var 1) (.var 3)) (.cons (.meth "seq" false indexD (.var 1) (.var 4)) .nil)))
    (ρ := [some (oD n ps), some (rowD r), none, none, none]) pairD (fun p => decide (p.1 ∈ r) && decide (p.2 ∈ r)) (fun p => pairD (idxI r p.1, idxI r p.2)) ps [] (fun p _ => ⟨_, rfl, by
      have h1 := encE_int.innT lay_int p.1 r
      have h2 := encE_int.innT lay_int p.2 r
      simp [rowD]
      simp [h1]
      by_cases hp : p.1 ∈ r
      · simp [hp, h2]
      · simp [hp], fun hp => by
      obtain ⟨h1, h2⟩ := Bool.and_eq_true_iff.mp hp
      have h1 := index_row r p.1 (of_decide_eq_true h1)
      have h2 := index_row r p.2 (of_decide_eq_true h2)
      have ty : isTy "seq" (rowD r) = true := rfl
      simp [ty, h1, h2, pairD]⟩) (by have := size_ge; simp; omega)
  have s := sorted_pairs (partP r ps)
  unfold partP at s
  rw [List.map_map] at s
  simp only [g_part_of, p_part_of, startD]
  simp [oD, prsD, rowD] at e ⊢
  rw [e]
  rw [show (fun p : IP => pairD (idxI r p.1, idxI r p.2)) = pairD ∘ fun p => (idxI r p.1, idxI r p.2) from rfl]
  simp [s, partP]
theorem eq_row (r s : List Int) : cmD .eq (rowD r) (rowD s) = some (.bool (decide (r = s))) := encE_row.eq lay_row r s
theorem ne_row (r s : List Int) : cmD .ne (rowD r) (rowD s) = some (.bool (!decide (r = s))) := encE_row.ne lay_row r s
theorem eq_o (n m : Int) (ps qs : List IP) : cmD .eq (oD n ps) (oD m qs) = some (.bool (decide ((n, ps) = (m, qs)))) := encE_o.eq (fun p => lay_oD p.1 p.2) (n, ps) (m, qs)
theorem ne_o (n m : Int) (ps qs : List IP) : cmD .ne (oD n ps) (oD m qs) = some (.bool (!decide ((n, ps) = (m, qs)))) := encE_o.ne (fun p => lay_oD p.1 p.2) (n, ps) (m, qs)
theorem part_o {n : Int} {ps : List IP} {r : List Int} (g : Good n ps) (l : Lot n r) : g_part [oD n ps, rowD r] = if r = [] then .ex "InvalidLot" else .ok (oD r.length (srtP (partP r ps))) := by
  have h1 := g.len
  have h2 := need_lot_row (ps := ps) l ⟨by have := g.lo; omega, by have := g.hi; omega⟩
  have h3 := part_of_o n ps r (by omega)
  have h4 := eq_row r []
  have h5 : (.tuple [] : D) = rowD [] := rfl
  by_cases e : r = []
  · subst e
    simp [g_part, p_part, startD, need_o g, h2, h5, h4]
  · simp [g_part, p_part, startD, need_o g, h2, h5, h4, e, h3]
end EN

/-! == CD6 == -/
set_option Elab.async false
set_option linter.all false
set_option maxRecDepth 100000
set_option maxHeartbeats 4000000
set_option autoImplicit false
/-! CD6: all that follows from pairs. -/
namespace EN
open PySem PySem.Spec PyProof.Rows L2 PySem.W
def InB (ps : List IP) : Prop := ∀ p, p ∈ ps → 0 ≤ p.1 ∧ p.1 < 6 ∧ 0 ≤ p.2 ∧ p.2 < 6
abbrev Asc (ps : List IP) : Prop := ps.Pairwise fun a b => ltP a b = true
def compP (ps : List IP) : List IP := ps.flatMap fun p => (ps.filter fun q => decide (q.1 = p.2)).map fun q => (p.1, q.2)
def stepC (ps : List IP) : List IP := sortU ltP (ps ++ compP ps)
theorem mem_comp {ps : List IP} {r : IP} : r ∈ compP ps ↔ ∃ b, (r.1, b) ∈ ps ∧ (b, r.2) ∈ ps := by
  unfold compP
  simp only [List.mem_flatMap, List.mem_map, List.mem_filter, decide_eq_true_eq]
  constructor
  · rintro ⟨p, hp, q, ⟨hq, e⟩, rfl⟩
    exact ⟨p.2, hp, by rw [← e]; exact hq⟩
  · rintro ⟨b, h1, h2⟩
    exact ⟨_, h1, _, ⟨h2, rfl⟩, rfl⟩
theorem mem_step {ps : List IP} {r : IP} : r ∈ stepC ps ↔ r ∈ ps ∨ ∃ b, (r.1, b) ∈ ps ∧ (b, r.2) ∈ ps := by
  unfold stepC
  rw [mem_sortU, List.mem_append, mem_comp]
theorem asc_step (ps : List IP) : Asc (stepC ps) := sortU_pw lin_ltP _
theorem inB_comp {ps : List IP} (h : InB ps) : InB (compP ps) := fun r hr => by
  obtain ⟨b, h1, h2⟩ := mem_comp.mp hr
  have := h _ h1
  have := h _ h2
  exact ⟨by omega, by omega, by omega, by omega⟩
theorem inB_step {ps : List IP} (h : InB ps) : InB (stepC ps) := fun r hr => by
  rcases mem_step.mp hr with hr | hr
  · exact h r hr
  · exact inB_comp h r (mem_comp.mpr hr)
/-- R is what follows from ps -/
structure IsClo (ps R : List IP) : Prop where
  asc : Asc R
  sub : ∀ p, p ∈ ps → p ∈ R
  tr : ∀ a b c, (a, b) ∈ R → (b, c) ∈ R → (a, c) ∈ R
  least : ∀ T : Int → Int → Prop, (∀ p, p ∈ ps → T p.1 p.2) → (∀ a b c, T a b → T b c → T a c) → ∀ p, p ∈ R → T p.1 p.2
theorem IsClo.uniq {ps qs R R' : List IP} (h : IsClo ps R) (h' : IsClo qs R') (e : ∀ p, p ∈ ps ↔ p ∈ qs) : R = R' :=
  pw_unique lin_ltP h.asc h'.asc fun p => ⟨fun hp => h.least (fun a b => (a, b) ∈ R') (fun q hq => h'.sub q ((e q).mp hq)) (fun a b c h1 h2 => h'.tr a b c h1 h2) p hp, fun hp => h'.least (fun a b => (a, b) ∈ R) (fun q hq => h.sub q ((e q).mpr hq)) (fun a b c h1 h2 => h.tr a b c h1 h2) p hp⟩
theorem IsClo.of_step {X R : List IP} (h : IsClo (stepC X) R) : IsClo X R :=
  ⟨h.asc, fun p hp => h.sub p (mem_step.mpr (.inl hp)), h.tr, fun T h1 h2 => h.least T (fun p hp => by
    rcases mem_step.mp hp with hp | ⟨b, q1, q2⟩
    · exact h1 p hp
    · exact h2 _ b _ (h1 _ q1) (h1 _ q2)) h2⟩
theorem IsClo.fix {X : List IP} (asc : Asc X) (e : stepC X = X) : IsClo X X :=
  ⟨asc, fun _ h => h, fun a b c h1 h2 => by rw [← e]; exact mem_step.mpr (.inr ⟨b, h1, h2⟩), fun T h1 _ p hp => h1 p hp⟩
theorem IsClo.of_mem {ps qs R : List IP} (h : IsClo ps R) (e : ∀ p, p ∈ ps ↔ p ∈ qs) : IsClo qs R :=
  ⟨h.asc, fun p hp => h.sub p ((e p).mpr hp), h.tr, fun T h1 h2 => h.least T (fun p hp => h1 p ((e p).mp hp)) h2⟩
theorem IsClo.refl {ps : List IP} (asc : Asc ps) (tr : ∀ a b c, (a, b) ∈ ps → (b, c) ∈ ps → (a, c) ∈ ps) : IsClo ps ps := ⟨asc, fun _ h => h, tr, fun T h1 _ p hp => h1 p hp⟩
theorem sub_len {X Y : List IP} (hx : Asc X) (hy : Asc Y) (h : ∀ p, p ∈ X → p ∈ Y) (n : X ≠ Y) : X.length < Y.length := by
  have e : X = Y.filter fun p => decide (p ∈ X) := pw_unique lin_ltP hx (hy.filter _) fun p => by
    rw [List.mem_filter]
    exact ⟨fun hp => ⟨h p hp, decide_eq_true hp⟩, fun hp => of_decide_eq_true hp.2⟩
  have l : (Y.filter fun p => decide (p ∈ X)).length ≤ Y.length := List.length_filter_le _ _
  rcases Nat.lt_or_eq_of_le l with l | l
  · have e' := congrArg List.length e
    omega
  · have := List.length_filter_eq_length_iff.mp l
    have e2 : Y.filter (fun p => decide (p ∈ X)) = Y := List.filter_eq_self.mpr this
    rw [e2] at e
    exact absurd e n
theorem sset_pairs (ps : List IP) (h : InB ps) : ssetL (ps.map pairD) = some (.list ((sortU ltP ps).map pairD)) := by
  unfold ssetL
  rw [asPairs_map]
  have h1 : inBd ps = true := List.all_eq_true.mpr fun p hp => by
    have := h p hp
    simp; omega
  have h2 : (sortU ltP ps).length ≤ 62 := by
    have := len36 (sortU_pw lin_ltP ps) fun p hp => h p (mem_sortU.mp hp)
    omega
  simp [h1, h2]
theorem ssetL_list (ps : List IP) (h : InB ps) : ssetD (.list (ps.map pairD)) = some (.list ((sortU ltP ps).map pairD)) := sset_pairs ps h
theorem ssetL_tuple (ps : List IP) (h : InB ps) : ssetD (.tuple (ps.map pairD)) = some (.list ((sortU ltP ps).map pairD)) := sset_pairs ps h
theorem len_comp {ps : List IP} (h : ps.length ≤ 36) : (compP ps).length ≤ 1296 := by
  unfold compP
  rw [List.length_flatMap]
  have := sum_le (f := fun p : IP => ((ps.filter fun q => decide (q.1 = p.2)).map fun q => ((p.1, q.2) : IP)).length) (m := 36) (xs := ps) fun x _ => by
    rw [List.length_map]
    have := List.length_filter_le (fun q : IP => decide (q.1 = x.2)) ps
    omega
  have h3 : ps.length * 36 ≤ 36 * 36 := Nat.mul_le_mul_right 36 h
  exact Nat.le_trans this h3
theorem ne_lists (xs ys : List IP) : cmD .ne (.list (xs.map pairD)) (.list (ys.map pairD)) = some (.bool (!decide (xs = ys))) := (encE_lst encE_pair).ne (fun xs => lay_lst (lay_map lay_pair xs)) xs ys
theorem whileP_succ (c : PF Bool) (b : PS) (n : Nat) (ρ : Lo) : PS.whileP c b (n + 1) ρ = .of (c.f ρ) ρ fun k => cond k ((b.f ρ).then_ (PS.whileP c b n)) (.nx ρ) := rfl
/-- a loop that steps to what follows -/
theorem while_clo {c : PF Bool} {b : PS} (St : Lo → List IP → Prop) (Fin : Lo → List IP → List IP → Prop)
    (go : ∀ ρ X, St ρ X → Asc X → InB X → c.f ρ = .ok true ∧ ∃ ρ', b.f ρ = .nx ρ' ∧ Fin ρ' X (stepC X))
    (on : ∀ ρ X Y, Fin ρ X Y → X ≠ Y → St ρ Y) (stop : ∀ ρ X Y, Fin ρ X Y → X = Y → c.f ρ = .ok false) :
    ∀ (k : Nat) (X : List IP) (ρ : Lo), Asc X → InB X → 36 ≤ X.length + k → St ρ X → ∀ n, k + 2 ≤ n → ∃ R ρ' X', PS.whileP c b n ρ = .nx ρ' ∧ Fin ρ' X' R ∧ IsClo X R := by
  intro k
  induction k with
  | zero =>
    intro X ρ asc inb hl st n hn
    obtain ⟨h1, ρ', h2, h3⟩ := go ρ X st asc inb
    obtain ⟨m, rfl⟩ : ∃ m, n = m + 2 := ⟨n - 2, by omega⟩
    have l2 := len36 (asc_step X) (inB_step inb)
    have e : stepC X = X := by
      by_cases e : X = stepC X
      · exact e.symm
      · have := sub_len asc (asc_step X) (fun p hp => mem_step.mpr (.inl hp)) e
        omega
    refine ⟨stepC X, ρ', X, ?_, h3, ?_⟩
    · rw [whileP_succ, h1]
      simp only [RS.of_ok, cond, h2, RS.then_nx]
      rw [whileP_succ, stop ρ' X _ h3 e.symm]
      rfl
    · rw [e]; exact .fix asc e
  | succ k ih =>
    intro X ρ asc inb hl st n hn
    obtain ⟨h1, ρ', h2, h3⟩ := go ρ X st asc inb
    obtain ⟨m, rfl⟩ : ∃ m, n = m + 2 := ⟨n - 2, by omega⟩
    by_cases e : X = stepC X
    · refine ⟨stepC X, ρ', X, ?_, h3, ?_⟩
      · rw [whileP_succ, h1]
        simp only [RS.of_ok, cond, h2, RS.then_nx]
        rw [whileP_succ, stop ρ' X _ h3 e]
        rfl
      · rw [← e]; exact .fix asc e.symm
    · have l := sub_len asc (asc_step X) (fun p hp => mem_step.mpr (.inl hp)) e
      obtain ⟨R, ρ2, X', h4, h5, h6⟩ := ih (stepC X) ρ' (asc_step X) (inB_step inb) (by omega) (on ρ' X _ h3 e) (m + 1) (by omega)
      refine ⟨R, ρ2, X', ?_, h5, h6.of_step⟩
      rw [whileP_succ, h1]
      simp only [RS.of_ok, cond, h2, RS.then_nx]
      exact h4
end EN

/-! == CD7 == -/
set_option Elab.async false
set_option linter.all false
set_option maxRecDepth 100000
set_option maxHeartbeats 4000000
set_option autoImplicit false
/-! CD7: closed, as the program and the laws have it. -/
namespace EN
open PySem PySem.Spec PyProof.Rows L2 PySem.W
abbrev lsD (ps : List IP) : D := .list (ps.map pairD)
theorem lc2_comp {vs vs1 : List Nat} {tg tg1 : Tg} {mi1 : PF (List D)} {mt : PF Bool} {me : PF D} {ρ : Lo} {X : List IP} (hl : X.length ≤ 36)
    (h : ∀ p : IP, ∃ ρ', tg (pairD p) (wipeD ρ vs) = some ρ' ∧ mi1.f ρ' = .ok (X.map pairD) ∧ ∀ q : IP, ∃ ρ2, tg1 (pairD q) (wipeD ρ' vs1) = some ρ2 ∧ mt.f ρ2 = .ok (decide (q.1 = p.2)) ∧ me.f ρ2 = .ok (pairD (p.1, q.2))) :
    PF.lcP2 vs tg mi1 vs1 tg1 mt me (X.map pairD) [] ρ = .ok ((compP X).map pairD) := by
  rw [lcP2_mapN 36 36 pairD pairD (fun _ => X) (fun p q => decide (q.1 = p.2)) (fun p q => pairD (p.1, q.2)) X (fun p _ => by
    obtain ⟨ρ', h1, h2, h3⟩ := h p
    exact ⟨ρ', h1, h2, fun q _ => by
      obtain ⟨ρ2, h4, h5, h6⟩ := h3 q
      exact ⟨ρ2, h4, h5, fun _ => h6⟩⟩) hl (fun _ _ => hl)]
  unfold compP
  rw [List.map_flatMap]
  simp [Function.comp_def]
theorem closed_prs (ps : List IP) (hb : InB ps) : ∃ R, g_closed [prsD ps] = .ok (prsD R) ∧ IsClo ps R := by
  have b0 : InB (sortU ltP ps) := fun p hp => hb p (mem_sortU.mp hp)
  have a0 : Asc (sortU ltP ps) := sortU_pw lin_ltP ps
  have l0 : (sortU ltP ps).length ≤ 36 := len36 a0 b0
  have mm : ∀ p, p ∈ sortU ltP ps ↔ p ∈ ps := fun p => mem_sortU
  have s0 := ssetL_tuple ps hb
  by_cases e0 : sortU ltP ps = []
  · refine ⟨[], ?_, ?_⟩
    · rw [e0] at s0
      have n0 := ne_lists [] []
      simp only [g_closed, p_closed, startD]
      simp [prsD] at s0 n0 ⊢
      simp [s0]
      rw [whileP_succ]
      simp [n0]
    · have : ps = [] := by
        cases ps with
        | nil => rfl
        | cons p ps => have := (mm p).mpr List.mem_cons_self; rw [e0] at this; cases this
      subst this
      exact .fix List.Pairwise.nil rfl
  · obtain ⟨R, ρ', X', h1, ⟨p, m, rfl⟩, h3⟩ := while_clo (c := (.bool (.op2 false false (cmD .ne) (.var 1) (.var 2)))) (b := (.seq (.asg (.var 1) (tgN 2))
    (.seq (.asg (.lc2 (.items (.var 1)) [4, 5, 6, 7] (tgT [4, 5]) (.items (.var 1)) [6, 7] (tgT [6, 7]) (.bool (.op2 false false (cmD .eq) (.var 6) (.var 5))) (.tup (.cons (.var 4) (.cons (.var 7) .nil)))) (tgN 3))
    (.asg (.call1 false ssetD (.op2 false false (op2 .add) (.var 1) (.var 3))) (tgN 1)))))
      (fun ρ X => ∃ p d m, ρ = [some p, some (lsD X), some d, m, none, none, none, none] ∧ cmD .ne (lsD X) d = some (.bool true))
      (fun ρ X Y => ∃ p m, ρ = [some p, some (lsD Y), some (lsD X), m, none, none, none, none])
      (fun ρ X ⟨p, d, m, e, ne⟩ asc inb => by
        subst e
        have lX := len36 asc inb
        have ec := fun d m => lc2_comp (vs := [4, 5, 6, 7]) (tg := tgT [4, 5]) (mi1 := .items (.var 1)) (vs1 := [6, 7]) (tg1 := tgT [6, 7]) (mt := .bool (.op2 false false (cmD .eq) (.var 6) (.var 5))) (me := .tup (.cons (.var 4) (.cons (.var 7) .nil))) (ρ := [some p, some (lsD X), some d, m, none, none, none, none]) (X := X) lX
          (fun p => ⟨_, rfl, rfl, fun q => ⟨_, rfl, by simp, by simp [pairD]⟩⟩)
        have ea := add_lists (X.map pairD) ((compP X).map pairD) (by have := len_comp lX; simp; omega)
        have es := ssetL_list (X ++ compP X) (fun q hq => (List.mem_append.mp hq).elim (inb q) (inB_comp inb q))
        rw [List.map_append] at es
        refine ⟨by simp [ne], _, ?_, p, some (lsD (compP X)), rfl⟩
        simp [ec, ea, es, stepC])
      (fun ρ X Y ⟨p, m, e⟩ n => ⟨p, _, m, e, by rw [ne_lists, decide_eq_false (fun z => n z.symm)]; rfl⟩)
      (fun ρ X Y ⟨p, m, e⟩ n => by subst e n; simp [ne_lists])
      36 (sortU ltP ps) [some (prsD ps), some (lsD (sortU ltP ps)), some (.list []), none, none, none, none, none] a0 b0 (by omega)
      ⟨_, _, _, rfl, by
        have := ne_lists (sortU ltP ps) []
        rw [decide_eq_false e0] at this
        exact this⟩ 100000 (by omega)
    refine ⟨R, ?_, h3.of_mem mm⟩
    simp only [g_closed, p_closed, startD]
    simp [prsD] at s0 h1 ⊢
    simp [s0]
    rw [h1]
    simp [prsD]
theorem ne_none (ds : List D) (n : Nat) (h : Lay n (.list ds)) (e : n ≤ 64 := by decide) : cmD .ne (.list ds) .none = some (.bool true) := by
  show ((eqD (.list ds) .none).map (!·)).map PyData.bool = _
  unfold eqD
  rw [h.shaped e]
  rfl
theorem foldl_comp (X : List IP) : ∀ (L acc : List IP), L.foldl (fun acc p => acc ++ (X.filter fun q => decide (q.1 = p.2)).map fun q => (p.1, q.2)) acc = acc ++ L.flatMap fun p => (X.filter fun q => decide (q.1 = p.2)).map fun q => (p.1, q.2)
  | [], acc => by simp
  | p :: L, acc => by simp [foldl_comp X L]
theorem law_closed_prs (ps : List IP) (hb : InB ps) : ∃ R, g__law_closed [prsD ps] = .ok (prsD R) ∧ IsClo ps R := by
  have b0 : InB (sortU ltP ps) := fun p hp => hb p (mem_sortU.mp hp)
  have a0 : Asc (sortU ltP ps) := sortU_pw lin_ltP ps
  have l0 : (sortU ltP ps).length ≤ 36 := len36 a0 b0
  have mm : ∀ p, p ∈ sortU ltP ps ↔ p ∈ ps := fun p => mem_sortU
  have s0 := ssetL_tuple ps hb
  obtain ⟨R, ρ', X', h1, ⟨p, m, m', rfl⟩, h3⟩ := while_clo (c := (.bool (.op2 false false (cmD .ne) (.var 1) (.var 2)))) (b := (.seq (.asg (.var 1) (tgN 2))
    (.seq (.forS (.items (.var 2)) (tgT [3, 4]) (.asg (.op2 false false (op2 .add) (.var 1) (.lc (.items (.var 2)) [5, 6] (tgT [5, 6]) (.bool (.op2 false false (cmD .eq) (.var 5) (.var 4))) (.tup (.cons (.var 3) (.cons (.var 6) .nil))))) (tgN 1)))
    (.asg (.call1 false ssetD (.var 1)) (tgN 1)))))
      (fun ρ X => ∃ p d m m', ρ = [some p, some (lsD X), some d, m, m', none, none] ∧ cmD .ne (lsD X) d = some (.bool true))
      (fun ρ X Y => ∃ p m m', ρ = [some p, some (lsD Y), some (lsD X), m, m', none, none])
      (fun ρ X ⟨p, d, m, m', e, ne⟩ asc inb => by
        subst e
        have lX := len36 asc inb
        have lY := len_comp lX
        have es := ssetL_list (X ++ compP X) (fun q hq => (List.mem_append.mp hq).elim (inb q) (inB_comp inb q))
        obtain ⟨ρ2, ef, ⟨m1, m2, rfl⟩, _⟩ := forP_idx (tg := tgT [3, 4]) (body := (.asg (.op2 false false (op2 .add) (.var 1) (.lc (.items (.var 2)) [5, 6] (tgT [5, 6]) (.bool (.op2 false false (cmD .eq) (.var 5) (.var 4))) (.tup (.cons (.var 3) (.cons (.var 6) .nil))))) (tgN 1))) pairD
          (fun (acc : List IP) p => acc ++ (X.filter fun q => decide (q.1 = p.2)).map fun q => (p.1, q.2)) (fun i acc ρ => (∃ m m', ρ = [some p, some (lsD acc), some (lsD X), m, m', none, none]) ∧ acc.length ≤ 36 + i * 36) X.length
          X 0 X [some p, some (lsD X), some (lsD X), m, m', none, none] (by omega) (fun q hq i s ρ hi ⟨⟨m, m', e⟩, hs⟩ => by
            subst e
            have ec := fun ρ0 => lcP_map (vs := [5, 6]) (tg := tgT [5, 6]) (mt := .bool (.op2 false false (cmD .eq) (.var 5) (.var 4))) (me := .tup (.cons (.var 3) (.cons (.var 6) .nil))) (ρ := [some p, some ρ0, some (lsD X), some (.int q.1), some (.int q.2), none, none])
              pairD (fun r => decide (r.1 = q.2)) (fun r => pairD (q.1, r.2)) X [] (fun r _ => ⟨_, rfl, by simp, fun _ => by simp [pairD]⟩) (by have := size_ge; simp; omega)
            have lf := List.length_filter_le (fun r : IP => decide (r.1 = q.2)) X
            have ea := add_lists (s.map pairD) ((X.filter fun r => decide (r.1 = q.2)).map fun r => pairD (q.1, r.2)) (by simp; omega)
            refine ⟨_, _, rfl, by simp [ec, ea]; rfl, ⟨_, _, by simp [Function.comp_def]; exact ⟨rfl, rfl⟩⟩, by simp; omega⟩) ⟨⟨m, m', rfl⟩, by omega⟩
        rw [foldl_comp] at ef
        rw [show (X.flatMap fun p => (X.filter fun q => decide (q.1 = p.2)).map fun q => ((p.1, q.2) : IP)) = compP X from rfl] at ef
        refine ⟨by simp [ne], _, ?_, p, m1, m2, rfl⟩
        have es' : ssetD (lsD (X ++ compP X)) = some (lsD (stepC X)) := es
        simp
        rw [ef]
        simp [es'])
      (fun ρ X Y ⟨p, m, m', e⟩ n => ⟨p, _, m, m', e, by rw [ne_lists, decide_eq_false (fun z => n z.symm)]; rfl⟩)
      (fun ρ X Y ⟨p, m, m', e⟩ n => by subst e n; simp [ne_lists])
      36 (sortU ltP ps) [some (prsD ps), some (lsD (sortU ltP ps)), some .none, none, none, none, none] a0 b0 (by omega)
      ⟨_, _, _, _, rfl, ne_none _ _ (lay_lst (lay_map lay_pair _))⟩ 100000 (by omega)
  refine ⟨R, ?_, h3.of_mem mm⟩
  simp only [g__law_closed, p__law_closed, startD]
  simp [prsD] at s0 h1 ⊢
  simp [s0]
  rw [h1]
  simp [prsD]
end EN

/-! == CH1 == -/
set_option Elab.async false
set_option linter.all false
set_option maxRecDepth 100000
set_option maxHeartbeats 4000000
set_option autoImplicit false
/-! CH1: how the terms run; draws. -/
namespace EN
open PySem PySem.Spec PyProof.Rows L2 PySem.W
section
variable {α β : Type} {ρ : Lo} {S : Sto} {E : QX}
@[simp] theorem M.val_run (a : α) (Q : α → Sto → Prop) : (M.val a).run ρ S Q E = Q a S := rfl
@[simp] theorem M.opt_run (o : Sto → Option α) (Q : α → Sto → Prop) : (M.opt o).run ρ S Q E = ∃ a, o S = some a ∧ Q a S := rfl
@[simp] theorem M.var_run (i : Nat) (Q : D → Sto → Prop) : (M.var i).run ρ S Q E = ∃ d, ρ[i]? = some (some d) ∧ Q d S := rfl
@[simp] theorem M.bind_run (m : M α) (f : α → M β) (Q : β → Sto → Prop) : (m.bind f).run ρ S Q E = m.run ρ S (fun a S1 => (f a).run ρ S1 Q E) E := rfl
@[simp] theorem M.op2_run (r1 r2 : Bool) (g : D → D → Option D) (a b : M D) (Q : D → Sto → Prop) : (M.op2 r1 r2 g a b).run ρ S Q E = a.run ρ S (fun x S1 => b.run ρ S1 (fun y S2 => ∃ d, g (rdB r1 S2 x) (rdB r2 S2 y) = some d ∧ Q d S2) E) E := rfl
@[simp] theorem M.bool_run (m : M D) (Q : Bool → Sto → Prop) : (M.bool m).run ρ S Q E = m.run ρ S (fun d S1 => ∃ k, asB d = some k ∧ Q k S1) E := rfl
@[simp] theorem M.ite_run (c : M Bool) (a b : M α) (Q : α → Sto → Prop) : (M.ite c a b).run ρ S Q E = c.run ρ S (fun k S1 => (cond k a b).run ρ S1 Q E) E := rfl
@[simp] theorem M.andB_run (m n : M Bool) (Q : Bool → Sto → Prop) : (M.andB m n).run ρ S Q E = m.run ρ S (fun k S1 => (cond k n (.val false)).run ρ S1 Q E) E := rfl
@[simp] theorem M.orB_run (m n : M Bool) (Q : Bool → Sto → Prop) : (M.orB m n).run ρ S Q E = m.run ρ S (fun k S1 => (cond k (.val true) n).run ρ S1 Q E) E := rfl
@[simp] theorem M.notB_run (m : M Bool) (Q : Bool → Sto → Prop) : (M.notB m).run ρ S Q E = m.run ρ S (fun k S1 => Q (!k) S1) E := rfl
@[simp] theorem M.andV_run (m n : M D) (Q : D → Sto → Prop) : (M.andV m n).run ρ S Q E = m.run ρ S (fun d S1 => ∃ k, asB d = some k ∧ (cond k n (.val (.bool false))).run ρ S1 Q E) E := rfl
@[simp] theorem M.nil_run (Q : List D → Sto → Prop) : M.nil.run ρ S Q E = Q [] S := rfl
@[simp] theorem M.cons_run (m : M D) (t : M (List D)) (Q : List D → Sto → Prop) : (M.cons m t).run ρ S Q E = m.run ρ S (fun d S1 => t.run ρ S1 (fun ds S2 => Q (d :: ds) S2) E) E := rfl
@[simp] theorem M.tup_run (t : M (List D)) (Q : D → Sto → Prop) : (M.tup t).run ρ S Q E = t.run ρ S (fun ds S1 => ∃ d, (if ds.length ≤ sizeLine then some (PyData.tuple ds) else none) = some d ∧ Q d S1) E := rfl
@[simp] theorem M.lst_run (t : M (List D)) (Q : D → Sto → Prop) : (M.lst t).run ρ S Q E = t.run ρ S (fun ds S1 => ∃ d, (if ds.length ≤ sizeLine then some (PyData.list ds) else none) = some d ∧ Q d S1) E := rfl
@[simp] theorem M.items_run (m : M D) (Q : List D → Sto → Prop) : (M.items m).run ρ S Q E = m.run ρ S (fun d S1 => ∃ ds, asL d = some ds ∧ Q ds S1) E := rfl
@[simp] theorem M.rng1_run (t : M (List D)) (Q : List D → Sto → Prop) : (M.rng1 t).run ρ S Q E = t.run ρ S (fun ds S1 => ∃ es, rngD1 ds = some es ∧ Q es S1) E := rfl
@[simp] theorem M.rng2_run (t : M (List D)) (Q : List D → Sto → Prop) : (M.rng2 t).run ρ S Q E = t.run ρ S (fun ds S1 => ∃ es, rngD2 ds = some es ∧ Q es S1) E := rfl
@[simp] theorem M.call1_run (r : Bool) (g : D → Option D) (m : M D) (Q : D → Sto → Prop) : (M.call1 r g m).run ρ S Q E = m.run ρ S (fun d S1 => ∃ e, g (rdB r S1 d) = some e ∧ Q e S1) E := rfl
@[simp] theorem M.callN_run (g : List D → Option D) (t : M (List D)) (Q : D → Sto → Prop) : (M.callN g t).run ρ S Q E = t.run ρ S (fun ds S1 => ∃ e, g ds = some e ∧ Q e S1) E := rfl
@[simp] theorem M.call_run (n : Nat) (c : C2) (t : M (List D)) (Q : D → Sto → Prop) : (M.call n c t).run ρ S Q E = t.run ρ S (fun ds S1 => ds.length = n ∧ c.run ds S1 Q E) E := rfl
@[simp] theorem M.call0_run (c : C2) (Q : D → Sto → Prop) : (M.call0 c).run ρ S Q E = c.run [] S Q noE := rfl
@[simp] theorem M.rg1_run (a : M D) (Q : List D → Sto → Prop) : (M.rg1 a).run ρ S Q E = a.run ρ S (fun d S1 => ∃ es, ((asI d).bind fun n => rgD 0 n) = some es ∧ Q es S1) E := rfl
@[simp] theorem M.mkc_run (ds : List D) (Q : D → Sto → Prop) : (M.mkc ds).run ρ S Q E = (ds.length ≤ sizeLine ∧ ∀ p, S p = none → Q (refD p) (S.put p (.lst ds))) := rfl
@[simp] theorem M.append_run (mo mv : M D) (Q : D → Sto → Prop) : (M.append mo mv).run ρ S Q E = mo.run ρ S (fun o S1 => ∃ (a : Addr) (ds0 : List D), o = refD a ∧ S1 a = some (.lst ds0) ∧ mv.run ρ S1 (fun d S2 => ∃ ds, S2 a = some (.lst ds) ∧ ds.length < sizeLine ∧ Q .none (S2.put a (.lst (ds ++ [d])))) E) E := rfl
@[simp] theorem M.popAt_run (mo mv : M D) (Q : D → Sto → Prop) : (M.popAt mo mv).run ρ S Q E = mo.run ρ S (fun o S1 => ∃ (a : Addr) (ds0 : List D), o = refD a ∧ S1 a = some (.lst ds0) ∧ mv.run ρ S1 (fun d S2 => ∃ ds i k y, d = .int i ∧ S2 a = some (.lst ds) ∧ -(2 ^ 63) ≤ i ∧ i < 2 ^ 63 ∧ seqIndex? i ds.length = some k ∧ ds[k]? = some y ∧ Q y (S2.put a (.lst (ds.eraseIdx k)))) E) E := rfl
@[simp] theorem M.lenS_run (F : Fx) (i : Nat) (Q : D → Sto → Prop) : (M.lenS F i).run ρ S Q E = ∃ a ns, ρ[i]? = some (some (refD a)) ∧ F.scr a = some ns ∧ Q (.int (ns.length : Nat)) S := rfl
@[simp] theorem M.ixS_run (F : Fx) (i : Nat) (m : M D) (Q : D → Sto → Prop) : (M.ixS F i m).run ρ S Q E = ∃ a ns, ρ[i]? = some (some (refD a)) ∧ F.scr a = some ns ∧ m.run ρ S (fun d S1 => ∃ k, (asI d).bind (atI ns) = some k ∧ Q (.int k) S1) E := rfl
@[simp] theorem M.lc_run (mi : M (List D)) (vs : List Nat) (tg : Tg) (mt : M Bool) (me : M D) (Q : D → Sto → Prop) : (M.lc mi vs tg mt me).run ρ S Q E = mi.run ρ S (fun ds S1 => lcG vs tg mt me (fun acc S2 => Q (.list acc) S2) ds [] ρ S1) E := rfl
@[simp] theorem M.tupV_run (t : M (List D)) (Q : D → Sto → Prop) : (M.tupV t).run ρ S Q E = t.run ρ S (fun ds S1 => Q (.tuple ds) S1) E := rfl
@[simp] theorem M.lstV_run (t : M (List D)) (Q : D → Sto → Prop) : (M.lstV t).run ρ S Q E = t.run ρ S (fun ds S1 => Q (.list ds) S1) E := rfl
@[simp] theorem M.meth_run (T : String) (r : Bool) (g : D → D → Option D) (mo mv : M D) (Q : D → Sto → Prop) : (M.meth T r g mo mv).run ρ S Q E = mo.run ρ S (fun d S1 => ∃ u, (if isTy T (rdB r S1 d) then some () else none) = some u ∧ mv.run ρ S1 (fun y S2 => ∃ e, g (rdB r S2 d) y = some e ∧ Q e S2) E) E := rfl
variable {nx : Lo → Sto → Prop} {rt : D → Sto → Prop} {xs : Str → Lo → Sto → Prop}
@[simp] theorem MS.skip_run : MS.skip.run ρ S nx rt xs = nx ρ S := rfl
@[simp] theorem MS.seq_run (a b : MS) : (MS.seq a b).run ρ S nx rt xs = a.run ρ S (fun ρ1 S1 => b.run ρ1 S1 nx rt xs) rt xs := rfl
@[simp] theorem MS.ret_run (m : M D) : (MS.ret m).run ρ S nx rt xs = m.run ρ S rt (fun x S1 => xs x ρ S1) := rfl
@[simp] theorem MS.asg_run (m : M D) (tg : Tg) : (MS.asg m tg).run ρ S nx rt xs = m.run ρ S (fun d S1 => ∃ ρ', tg d ρ = some ρ' ∧ nx ρ' S1) (fun x S1 => xs x ρ S1) := rfl
@[simp] theorem MS.par_run (t : M (List D)) (i j : Nat) : (MS.par t i j).run ρ S nx rt xs = t.run ρ S (fun ds S1 => ∃ a b, ds = [a, b] ∧ nx ((ρ.set i (some a)).set j (some b)) S1) (fun x S1 => xs x ρ S1) := rfl
@[simp] theorem MS.expr_run (m : M D) : (MS.expr m).run ρ S nx rt xs = m.run ρ S (fun _ S1 => nx ρ S1) (fun x S1 => xs x ρ S1) := rfl
@[simp] theorem MS.ifS_run (c : M Bool) (a b : MS) : (MS.ifS c a b).run ρ S nx rt xs = c.run ρ S (fun k S1 => cond k (a.run ρ S1 nx rt xs) (b.run ρ S1 nx rt xs)) (fun x S1 => xs x ρ S1) := rfl
@[simp] theorem MS.raise_run (x : Str) : (MS.raise x).run ρ S nx rt xs = xs x ρ S := rfl
@[simp] theorem MS.freeze_run (i : Nat) : (MS.freeze i).run ρ S nx rt xs = ∃ (a : Addr) (ds : List D), ρ[i]? = some (some (refD a)) ∧ S a = some (.lst ds) ∧ nx (ρ.set i (some (.list ds))) (S.del a) := rfl
@[simp] theorem MS.forS_run (mi : M (List D)) (tg : Tg) (b : MS) : (MS.forS mi tg b).run ρ S nx rt xs = mi.run ρ S (fun ds S1 => MS.forL tg b nx rt xs ds ρ S1) (fun x S1 => xs x ρ S1) := rfl
@[simp] theorem MS.setIx_run (m mo mk : M D) : (MS.setIx m mo mk).run ρ S nx rt xs = m.run ρ S (fun v S1 => mo.run ρ S1 (fun o S2 => mk.run ρ S2 (fun k S3 => ∃ (a : Addr) (ds : List D) (i : Int) (j : Nat), o = refD a ∧ S3 a = some (.lst ds) ∧ k = .int i ∧ ixN ds.length i = some j ∧ nx ρ (S3.put a (.lst (ds.set j v)))) (fun x S1 => xs x ρ S1)) (fun x S1 => xs x ρ S1)) (fun x S1 => xs x ρ S1) := rfl
@[simp] theorem rdB_false (d : D) : rdB false S d = d := rfl
@[simp] theorem rdB_true (d : D) : rdB true S d = rd S d := rfl
theorem rd_lst {a : Addr} {ds : List D} (h : S a = some (.lst ds)) : rd S (refD a) = .list ds := by rw [rd_ref, h]
end
theorem C2.pure_run (g : List D → Res) (ds : List D) (S : Sto) (Q : QD) (E : QX) : (C2.pure g).run ds S Q E = (g ds).run S Q E := rfl
@[simp] theorem Res.run_ok (d : D) (S : Sto) (Q : QD) (E : QX) : (Res.ok d).run S Q E = Q d S := rfl
@[simp] theorem Res.run_ex (x : Str) (S : Sto) (Q : QD) (E : QX) : (Res.ex x).run S Q E = E x S := rfl
theorem refD_inj {a b : Addr} (h : refD a = refD b) : a = b := by
  unfold refD at h
  simp only [PyData.dict.injEq, List.cons.injEq, Prod.mk.injEq, PyData.int.injEq, and_true, true_and] at h
  exact Int.ofNat.inj h
@[simp] theorem refD_eq {a b : Addr} : (refD a = refD b) = (a = b) := propext ⟨refD_inj, fun h => by rw [h]⟩
@[simp] theorem castA {a b : Addr} : ((@Nat.cast Int _ a) = (@Nat.cast Int _ b)) = (a = b) := propext ⟨fun h => Int.ofNat.inj h, fun h => by rw [h]⟩
@[simp] theorem rd_put {S : Sto} {a : Addr} {ds : List D} : rd (S.put a (.lst ds)) (refD a) = .list ds := rd_lst Sto.put_same
@[simp] theorem put_at {S : Sto} {a : Addr} {c : Cell} : S.put a c a = some c := Sto.put_same
@[simp] theorem put_put_eq {S : Sto} {a : Addr} {c c' : Cell} : (S.put a c).put a c' = S.put a c' := Sto.put_put
@[simp] theorem ixN_0 (n : Nat) : ixN (n + 1) 0 = some 0 := ixN_nat (n + 1) 0 (by omega)
@[simp] theorem ixN_1 (n : Nat) : ixN (n + 2) 1 = some 1 := ixN_nat (n + 2) 1 (by omega)
@[simp] theorem ixN_20 : ixN 2 0 = some 0 := ixN_nat 2 0 (by omega)
@[simp] theorem ixN_21 : ixN 2 1 = some 1 := ixN_nat 2 1 (by omega)
/-! ### draws -/
def VatV (x y : Int) : Cell := .lst [.int x, .int y]
structure VatOk (S : Sto) (a : Addr) : Prop where
  ex : ∃ x y : Int, S a = some (VatV x y) ∧ 0 ≤ y ∧ y ≤ 2147483629
/-- what stays but for the vat -/
def Fr (a : Addr) (S S' : Sto) : Prop := ∀ b c, b ≠ a → S b = some c → S' b = some c
theorem Fr.refl (a : Addr) (S : Sto) : Fr a S S := fun _ _ _ h => h
theorem Fr.trans {a : Addr} {S S1 S2 : Sto} (h : Fr a S S1) (k : Fr a S1 S2) : Fr a S S2 := fun b c n e => k b c n (h b c n e)
/-- a number from 0 to n - 1 -/
def cUnder : C2 := ⟨fun ds S Q E => ∃ (a : Addr) (n : Int), ds = [refD a, .int n] ∧ 0 < n ∧ n < 1073741824 ∧ VatOk S a ∧ ∀ (r x y : Int), 0 ≤ r → r < n → 0 ≤ y → y ≤ 2147483629 → Q (.int r) (S.put a (VatV x y)),
  fun q e ⟨a, n, h1, h2, h3, h4, h5⟩ => ⟨a, n, h1, h2, h3, h4, fun r x y g1 g2 g3 g4 => q _ _ (h5 r x y g1 g2 g3 g4)⟩⟩
theorem hc__law_under : ∀ (ds : List D) (S : Sto) (Q : QD) (E : QX), ds.length = 2 → cUnder.run ds S Q E → m__law_under.run (startD ["vat", "many", "wide", "found"] ds) S (fun _ S' => Q .none S') Q (fun x _ S' => E x S') := by
  rintro ds S Q E _ ⟨a, n, rfl, hn, hn2, ⟨x, y, hS, y0, y1⟩, q⟩
  have hS' : S a = some (.lst [.int x, .int y]) := hS
  simp only [m__law_under, startD]
  simp [rd_lst hS', hS', hn, hn2]
  have b1 : 0 ≤ (y * 39373 + 101) % 2147483629 := Int.emod_nonneg _ (by decide)
  have b2 : (y * 39373 + 101) % 2147483629 < 2147483629 := Int.emod_lt_of_pos _ (by decide)
  generalize (y * 39373 + 101) % 2147483629 = z at b1 b2 ⊢
  rw [mul_ints' _ _ (by omega) (by omega)]
  simp [hn]
  by_cases hx : x ≤ 0
  · exact .inl ⟨hx, q _ x z (Int.emod_nonneg _ (by omega)) (Int.emod_lt_of_pos _ hn) b1 (by omega)⟩
  · exact .inr ⟨by omega, q _ (x / n) y (Int.emod_nonneg _ (by omega)) (Int.emod_lt_of_pos _ hn) y0 y1⟩
theorem VatOk.put (S : Sto) (a : Addr) {x y : Int} (h : 0 ≤ y) (h2 : y ≤ 2147483629) : VatOk (S.put a (VatV x y)) a := ⟨⟨x, y, put_at, h, h2⟩⟩
theorem Fr.put (S : Sto) (a : Addr) (c : Cell) : Fr a S (S.put a c) := fun b c' n e => by rw [Sto.put_ne n]; exact e
/-- the same in fewer words -/
theorem cUnder_run {a : Addr} {n : Int} {S : Sto} {Q : QD} {E : QX} (hn : 0 < n) (hn2 : n < 1073741824) (hv : VatOk S a) (q : ∀ (r : Int) (S' : Sto), 0 ≤ r → r < n → VatOk S' a → Fr a S S' → (∀ b, b ≠ a → S' b = S b) → Q (.int r) S') : cUnder.run [refD a, .int n] S Q E :=
  ⟨a, n, rfl, hn, hn2, hv, fun r x y h1 h2 h3 h4 => q r _ h1 h2 (.put S a h3 h4) (.put S a _) fun b hb => Sto.put_ne hb⟩
/-- what draws come from -/
def cVat (F : Fx) : C2 := ⟨fun ds S Q E => ∃ (s : Addr) (ns : List Int) (k : Int), ds = [refD s, .int k] ∧ F.scr s = some ns ∧ 0 ≤ k ∧ k < 1000 ∧ ∀ (p : Addr) (x y : Int), S p = none → 0 ≤ y → y ≤ 2147483629 → Q (refD p) (S.put p (VatV x y)),
  fun q e ⟨s, ns, k, h1, h2, h3, h4, h5⟩ => ⟨s, ns, k, h1, h2, h3, h4, fun p x y g1 g2 g3 => q _ _ (h5 p x y g1 g2 g3)⟩⟩
theorem hc__law_vat (F : Fx) : ∀ (ds : List D) (S : Sto) (Q : QD) (E : QX), ds.length = 2 → (cVat F).run ds S Q E → (m__law_vat F).run (startD ["script", "k", "cell"] ds) S (fun _ S' => Q .none S') Q (fun x _ S' => E x S') := by
  rintro ds S Q E _ ⟨s, ns, k, rfl, hs, k0, k1, q⟩
  simp only [m__law_vat, startD]
  have fin : ∀ c : Int, ∀ p : Addr, S p = none → Q (refD p) (S.put p (.lst [.int (if 1000000000000000000 ≤ c then c else 0), .int ((c * 131071 + 8191 * k + 5) % 2147483629 + 1)])) := fun c p hp => by
    have b1 : 0 ≤ (c * 131071 + 8191 * k + 5) % 2147483629 := Int.emod_nonneg _ (by decide)
    have b2 : (c * 131071 + 8191 * k + 5) % 2147483629 < 2147483629 := Int.emod_lt_of_pos _ (by decide)
    exact q p _ _ hp (by omega) (by omega)
  by_cases hk : k < ns.length
  · obtain ⟨v, hv⟩ : ∃ v, atI ns k = some v := by
      have e := atI_nat ns k.toNat (by omega)
      rw [show ((k.toNat : Nat) : Int) = k by omega] at e
      rw [e, List.getElem?_eq_getElem (by omega)]
      exact ⟨_, rfl⟩
    have fin := fin (if v < 0 then -v else v)
    simp [hs, hk, hv]
    generalize (if v < 0 then -v else v) = c at fin ⊢
    by_cases hc : 1000000000000000000 ≤ c
    · rw [if_pos hc] at fin
      exact .inr ⟨hc, fin⟩
    · rw [if_neg hc] at fin
      exact .inl ⟨by omega, fin⟩
  · have fin := fin (7919 * k + 43)
    simp [hs, hk]
    generalize 7919 * k + 43 = c at fin ⊢
    by_cases hc : 1000000000000000000 ≤ c
    · rw [if_pos hc] at fin
      exact .inr ⟨hc, fin⟩
    · rw [if_neg hc] at fin
      exact .inl ⟨by omega, fin⟩
/-- what the law is asked -/
def cLaw (F : Fx) : C2 := ⟨fun ds S Q E => ∃ a ns, ds = [refD a] ∧ F.scr a = some ns ∧ ns.length ≤ 63 ∧ (∀ z ∈ ns, Builtin.Int.intBits z ≤ 1048576) ∧ S = (fun _ => none) ∧ ∀ S', Q (.bool true) S',
  fun q e ⟨a, ns, h1, h2, h3, h4, h5, h6⟩ => ⟨a, ns, h1, h2, h3, h4, h5, fun S' => q _ _ (h6 S')⟩⟩
end EN

/-! == T3 == -/
set_option Elab.async false
set_option linter.all false
set_option maxRecDepth 100000
set_option maxHeartbeats 4000000
set_option autoImplicit false
/-! T3: a law's end. -/
namespace EN
open PySem PySem.Spec PyProof.Rows L2 He
/-- a def by its body: the function object given -/
theorem fnOk_of {F : Fx} {P : Program} {w : World} {base : Heap} {x : Str} {st : Stmt} {f : Addr} {fd : FuncData} {N ps : List Str} {ms : MS} {k n : Nat} {c : C2} (Fn : Fun F.K x x st f fd) (Sc : FnScope N ps (defScope st)) (hn : ps.length = n)
    (body : ∀ (cdv : Value) (A : Around) (outer : List Env) (s : Shared) (H : Hp) (E : XK), fd.code = cdv → Gd F (cxOf (L2N.CX P w) P w F.K F.mg base N x (defScope st) f cdv A outer s H E) (fun cls d _ H => E cls d H) k →
      PSs (cxOf (L2N.CX P w) P w F.K F.mg base N x (defScope st) f cdv A outer s H E) (defBody st) (tS F (fun cls d _ H => E cls d H) ms))
    (hc : ∀ ds S Q E, ds.length = n → c.run ds S Q E → ms.run (startD N ds) S (fun _ S' => Q .none S') Q (fun x _ S' => E x S')) : FnOk P w F.K F.mg base (L2N.CX P w) (k + 1) f fd ps (spD F n c) := by
  obtain ⟨oc, od, kV, doc, pm, an, cdv, ct, osl, rfl, lk, hcd⟩ := Fn.ex
  refine fn_of lk hcd Sc (fun vs H Q E ⟨_, _, _, h, _⟩ => by rw [hn]; exact h) fun A outer s H vs Q E hr ⟨S, Z, ds, hl, rh, ra, h⟩ => ⟨_, body cdv A outer s H E rfl (gd_of Sc.nd hr), ?_⟩
  refine ⟨startD N ds, S, Z, sl_start ra, rh, ms.mono (fun ρ' S' q σ' H' st sl => q .non H' st .non) (fun d S' q => q) (fun x ρ' S' q C d σ' H' e st sl => q C d H' e st) (hc ds S _ _ (by rw [← ra.length]; exact hl) h)⟩
/-- the setting of a call of the law -/
def fxOf (L : HL) (K : PySem.W.Frag) (mg : Str → Option Value) (a : Addr) (ns : List Int) : Fx := { K := K, mg := mg, T := L.tabs K, scr := fun b => if b = a then some ns else none }
theorem walk_end {l : PySem.W.OpenLaw} {L : HL} {st stL : Stmt} {n k : Nat} {q : Program} {loose : List Str} {XP : (Str → Option Value) → Heap → Prop} {d : DefRec}
    (hn : l.most = some 63) (hdf : d.params.defaults = []) (hr : Room k callerA) (hd : d.name = "law") (hL : (((("law" : Str), stL) : Str × Stmt) ∈ L.fns))
    (hb : ∀ (kV doc pm : Value) (an : Option Addr) (cdv ct u : Value), bindArgs (PySem.W.fnOf "law" "law" (defArgs stL) (defBody stL) (defScope stL) .none kV doc pm an cdv ct) ⟨[u], []⟩ = pure [(("script" : Str), u)])
    (ht : (l.prog.main.scope.names.lookup ("super" : Str)).isSome = false)
    (hst : ∃ p1 p2 q1 q2 q3 q4 q5 q6 q7 q8 q9 r1 r2 r3 r4 : Pos, (q3.endLine == q8.line) = true ∧ defArgs st = tmA p1 p2 ∧ defBody st = EN.tmB q1 q2 q3 q4 q5 q6 q7 q8 q9 r1 r2 r3 r4 ∧ defScope st = tmS)
    (main : ∀ (w : World) (F : Fx) (base : Heap) (f : Addr) (fd : FuncData), Hd L l.prog F → Fun F.K "law" "law" stL f fd → fd.code = .ref (codeOf F.K (("law" : Str), none)) → FnOk l.prog w F.K F.mg base (L2N.CX l.prog w) k f fd ["script"] (spD F 1 (cLaw F))) :
    PySem.W.WalkO q loose XP (hookN n L st l.prog.main.file).says l.row.toRowW d [] (fun f vs => PySem.call f vs) := by
  refine LamX.walk_ofTsE (n := 63) (k := k) (x := "script") (CX := fun w => L2N.CX l.prog w) hn (by decide) hdf hr ?F (fun w H s e s' z => ?_)
  case F =>
    intro w mg fa h Y G hmg
    obtain ⟨K, KX, c⟩ := Y
    have hdF : ∀ a ns, Hd L l.prog (fxOf L K mg a ns) := fun a ns => hd_of (F := fxOf L K mg a ns) KX G c rfl ht hst
    obtain ⟨fd, Fn, gl, hcd⟩ := (hdF 0 []).fn _ hL
    have Fn : Fun K "law" "law" stL (ga K "law") fd := Fn
    have gl : mg "law" = some (.ref (ga K "law")) := gl
    have hcd : fd.code = .ref (codeOf K (("law" : Str), none)) := hcd
    have efa : fa = ga K "law" := by
      rw [hd, gl] at hmg
      cases hmg; rfl
    subst efa
    have memT : ∀ p ∈ L.tf.map (cT K), ∃ q ∈ L.tf, p = cT K q := fun p hp => by
      obtain ⟨q, hq, e⟩ := List.mem_map.mp hp
      exact ⟨q, hq, e.symm⟩
    refine ⟨K, KX, fd, L.tf.map (cT K), fun vs H Q E => ∃ a ns, vs = [.ref a] ∧ SqL K H a (ns.map V.int) ∧ ns.length ≤ 63 ∧ (∀ z ∈ ns, Builtin.Int.intBits z ≤ 1048576) ∧ (∀ p ∈ L.tf.map (cT K), H p.2 = some (.tbl #[])) ∧ ∀ H', Q (.bl true) H', fun p hp => ?_, fun p hp => ?_, fun p hp => ?_, fun s u => ?_, fun H a ns hl hz hH hS => ⟨a, ns, rfl, hS, hl, hz, hH, fun _ => rfl⟩, fun base _ _ _ => ?_⟩
    · obtain ⟨q, hq, rfl⟩ := memT p hp; exact c.empty q hq
    · obtain ⟨q, hq, rfl⟩ := memT p hp; exact c.out q hq
    · obtain ⟨q, hq, rfl⟩ := memT p hp; exact PySem.W.codeHd_of_K KX (c.hd q hq)
    · obtain ⟨oc, od, kV, doc, pm, an, cdv, ct, osl, rfl, lk, _⟩ := Fn.ex
      exact .of_eq (hb kV doc pm an cdv ct u)
    · refine ⟨fun vs H Q E ⟨a, ns, e, _⟩ => by rw [e]; rfl, fun A outer s H args us vs Q E hr e0 hb hv ⟨a, ns, evs, hS, hl, hz, hH, hQ⟩ => ?_⟩
      subst evs
      have ok := main w (fxOf L K mg a ns) base _ fd (hdF a ns) Fn hcd
      have rh : RelH (fxOf L K mg a ns) H (fun _ => none) (fun _ => False) := by
        refine ⟨fun _ _ z => (by cases z), fun _ z => z.elim, fun b ns' e => ?_, fun p hp => ?_, fun p hp => (by cases hp), fun p hp => (by cases hp), fun p hp => (by cases hp)⟩
        · have e' : (if b = a then some ns else none) = some ns' := e
          split at e'
          · rename_i hba
            subst hba
            cases e'
            rcases hS with hS | hS
            · exact .inl ⟨hS, rfl, fun z => z⟩
            · exact .inr hS
          · cases e'
        · obtain ⟨x, hx, rfl⟩ := List.mem_map.mp (show p ∈ L.tabs K from hp)
          refine ⟨#[], hH (cT K (x, none)) (List.mem_map.mpr ⟨(x, none), List.mem_map.mpr ⟨x, hx, rfl⟩, rfl⟩), ?_, fun pos cv e => ?_⟩
          · trivial
          · cases e
      exact ok.run A outer s H args us [.ref a] Q E hr e0 hb hv ⟨fun _ => none, fun _ => False, [refD a], rfl, rh, .cons (.ref a) .nil, a, ns, rfl, if_pos rfl, hl, hz, rfl, fun S' v H' st r => by cases r; exact hQ H'⟩
  case _ =>
    obtain ⟨_, _, _, _, _, _, _, _, _, _, _, _, h⟩ := z
    exact h
end EN

/-! == CH2 == -/
set_option Elab.async false
set_option linter.all false
set_option maxRecDepth 100000
set_option maxHeartbeats 4000000
set_option autoImplicit false
/-! CH2: loops by what is kept; drawn rows. -/
namespace EN
open PySem PySem.Spec PyProof.Rows L2 PySem.W
theorem forL_idx {tg : Tg} {body : MS} {nx : Lo → Sto → Prop} {rt : D → Sto → Prop} {xs : Str → Lo → Sto → Prop} (I : Nat → Lo → Sto → Prop) : ∀ (ds : List D) (i : Nat) (ρ : Lo) (S : Sto),
    (∀ j d ρ S, ds[j]? = some d → I (i + j) ρ S → ∃ ρ', tg d ρ = some ρ' ∧ body.run ρ' S (I (i + j + 1)) rt xs) → I i ρ S → (∀ ρ S, I (i + ds.length) ρ S → nx ρ S) → MS.forL tg body nx rt xs ds ρ S
  | [], i, ρ, S, _, hI, h => h ρ S hI
  | d :: ds, i, ρ, S, hb, hI, h => by
    obtain ⟨ρ', h1, h2⟩ := hb 0 d ρ S rfl hI
    refine ⟨ρ', h1, body.mono (fun ρ2 S2 k => ?_) (fun _ _ k => k) (fun _ _ _ k => k) h2⟩
    refine forL_idx I ds (i + 1) ρ2 S2 (fun j d' ρ S e hI' => ?_) k (fun ρ S hI' => h ρ S ?_)
    · have := hb (j + 1) d' ρ S (by simpa using e) (by rw [show i + (j + 1) = i + 1 + j by omega]; exact hI')
      rw [show i + (j + 1) = i + 1 + j by omega] at this
      exact this
    · rw [List.length_cons, show i + (ds.length + 1) = i + 1 + ds.length by omega]; exact hI'
/-- over things of one kind -/
theorem forL_map {X : Type} {tg : Tg} {body : MS} {nx : Lo → Sto → Prop} {rt : D → Sto → Prop} {xs : Str → Lo → Sto → Prop} (enc : X → D) (I : Nat → Lo → Sto → Prop) (l : List X) {ρ : Lo} {S : Sto}
    (hb : ∀ j x ρ S, l[j]? = some x → I j ρ S → ∃ ρ', tg (enc x) ρ = some ρ' ∧ body.run ρ' S (I (j + 1)) rt xs) (h0 : I 0 ρ S) (h : ∀ ρ S, I l.length ρ S → nx ρ S) : MS.forL tg body nx rt xs (l.map enc) ρ S :=
  forL_idx I (l.map enc) 0 ρ S (fun j d ρ S e hI => by
    rw [List.getElem?_map] at e
    cases q : l[j]? with
    | none => rw [q] at e; cases e
    | some x =>
      rw [q] at e
      cases e
      rw [Nat.zero_add] at hI ⊢
      exact hb j x ρ S q hI) h0 (fun ρ S hI => h ρ S (by rw [Nat.zero_add, List.length_map] at hI; exact hI))
/-- where nothing but the invariant is wanted -/
theorem forL_inv {X : Type} {tg : Tg} {body : MS} {nx : Lo → Sto → Prop} {rt : D → Sto → Prop} {xs : Str → Lo → Sto → Prop} (enc : X → D) (I : Lo → Sto → Prop) (l : List X) {ρ : Lo} {S : Sto}
    (hb : ∀ x ρ S, x ∈ l → I ρ S → ∃ ρ', tg (enc x) ρ = some ρ' ∧ body.run ρ' S I rt xs) (h0 : I ρ S) (h : ∀ ρ S, I ρ S → nx ρ S) : MS.forL tg body nx rt xs (l.map enc) ρ S :=
  forL_map enc (fun _ => I) l (fun j x ρ S e hI => hb x ρ S (List.mem_of_getElem? e) hI) h0 h
theorem lcG_idx {vs : List Nat} {tg : Tg} {mt : M Bool} {me : M D} {K : List D → Sto → Prop} {ρ : Lo} (I : Nat → List D → Sto → Prop) : ∀ (ds : List D) (i : Nat) (acc : List D) (S : Sto),
    (∀ j d acc S, ds[j]? = some d → I (i + j) acc S → ∃ ρ', tg d (wipeD ρ vs) = some ρ' ∧ mt.run ρ' S (fun k S1 => cond k (me.run ρ' S1 (fun y S2 => acc.length < sizeLine ∧ I (i + j + 1) (acc ++ [y]) S2) noE) (I (i + j + 1) acc S1)) noE) → I i acc S → (∀ acc S, I (i + ds.length) acc S → K acc S) → lcG vs tg mt me K ds acc ρ S
  | [], i, acc, S, _, hI, h => h acc S hI
  | d :: ds, i, acc, S, hb, hI, h => by
    obtain ⟨ρ', h1, h2⟩ := hb 0 d acc S rfl hI
    have go : ∀ acc S, I (i + 0 + 1) acc S → lcG vs tg mt me K ds acc ρ S := fun acc S k => by
      refine lcG_idx I ds (i + 1) acc S (fun j d' acc S e hI' => ?_) k (fun acc S hI' => h acc S ?_)
      · have := hb (j + 1) d' acc S (by simpa using e) (by rw [show i + (j + 1) = i + 1 + j by omega]; exact hI')
        rw [show i + (j + 1) = i + 1 + j by omega] at this
        exact this
      · rw [List.length_cons, show i + (ds.length + 1) = i + 1 + ds.length by omega]; exact hI'
    refine ⟨ρ', h1, mt.mono (fun k S1 q => ?_) (fun _ _ z => z) h2⟩
    cases k with
    | false => exact go acc S1 q
    | true => exact me.mono (fun y S2 q => ⟨q.1, go _ _ q.2⟩) (fun _ _ z => z) q
theorem lcG_map {X : Type} {vs : List Nat} {tg : Tg} {mt : M Bool} {me : M D} {K : List D → Sto → Prop} {ρ : Lo} (enc : X → D) (I : Nat → List D → Sto → Prop) (l : List X) {S : Sto}
    (hb : ∀ j x acc S, l[j]? = some x → I j acc S → ∃ ρ', tg (enc x) (wipeD ρ vs) = some ρ' ∧ mt.run ρ' S (fun k S1 => cond k (me.run ρ' S1 (fun y S2 => acc.length < sizeLine ∧ I (j + 1) (acc ++ [y]) S2) noE) (I (j + 1) acc S1)) noE) (h0 : I 0 [] S) (h : ∀ acc S, I l.length acc S → K acc S) : lcG vs tg mt me K (l.map enc) [] ρ S :=
  lcG_idx I (l.map enc) 0 [] S (fun j d acc S e hI => by
    rw [List.getElem?_map] at e
    cases q : l[j]? with
    | none => rw [q] at e; cases e
    | some x =>
      rw [q] at e
      cases e
      rw [Nat.zero_add] at hI ⊢
      exact hb j x acc S q hI) h0 (fun acc S hI => h acc S (by rw [Nat.zero_add, List.length_map] at hI; exact hI))
/-- a while by a number that falls -/
theorem whileL_down {c : M Bool} {body : MS} {nx : Lo → Sto → Prop} {rt : D → Sto → Prop} {xs : Str → Lo → Sto → Prop} (I : Nat → Lo → Sto → Prop)
    (go : ∀ m ρ S, I (m + 1) ρ S → c.run ρ S (fun k S1 => cond k (body.run ρ S1 (I m) rt xs) (nx ρ S1)) (fun x S1 => xs x ρ S1)) (last : ∀ ρ S, I 0 ρ S → c.run ρ S (fun k S1 => cond k False (nx ρ S1)) (fun x S1 => xs x ρ S1)) :
    ∀ (m : Nat) (ρ : Lo) (S : Sto), I m ρ S → MS.whileL c body nx rt xs (m + 1) ρ S
  | 0, ρ, S, h => c.mono (fun k S1 q => by
      cases k with
      | false => exact q
      | true => exact q.elim) (fun _ _ z => z) (last ρ S h)
  | m + 1, ρ, S, h => c.mono (fun k S1 q => by
      cases k with
      | false => exact q
      | true => exact body.mono (fun ρ2 S2 k => whileL_down I go last m ρ2 S2 k) (fun _ _ z => z) (fun _ _ _ z => z) q) (fun _ _ z => z) (go m ρ S h)
theorem whileS_run (c : M Bool) (b : MS) (ρ : Lo) (S : Sto) (nx : Lo → Sto → Prop) (rt : D → Sto → Prop) (xs : Str → Lo → Sto → Prop) : (MS.whileS c b).run ρ S nx rt xs = ∃ n, MS.whileL c b nx rt xs n ρ S := rfl
theorem eraseIdx_map' {α β : Type} (f : α → β) : ∀ (l : List α) (k : Nat), (l.map f).eraseIdx k = (l.eraseIdx k).map f
  | [], _ => rfl
  | _ :: _, 0 => rfl
  | x :: l, k + 1 => by simp [eraseIdx_map' f l k]
theorem erase_perm {α : Type} : ∀ (l : List α) (k : Nat) (h : k < l.length), (l[k] :: l.eraseIdx k).Perm l
  | [], _, h => by cases h
  | x :: l, 0, _ => by simp
  | x :: l, k + 1, h => by
    have := erase_perm l k (by simpa using h)
    simp only [List.getElem_cons_succ, List.eraseIdx_cons_succ]
    exact (List.Perm.swap _ _ _).trans (List.Perm.cons x this)
/-! ### drawn rows -/
def cRow : C2 := ⟨fun ds S Q E => ∃ (a : Addr) (n : Int), ds = [refD a, .int n] ∧ 0 ≤ n ∧ n ≤ 64 ∧ VatOk S a ∧ ∀ (r : List Int) (S' : Sto), r.Perm (rangeI n) → VatOk S' a → Fr a S S' → Q (rowD r) S',
  fun q e ⟨a, n, h1, h2, h3, h4, h5⟩ => ⟨a, n, h1, h2, h3, h4, fun r S' g1 g2 g3 => q _ _ (h5 r S' g1 g2 g3)⟩⟩
theorem seqIx_nat (n k : Nat) (h : k < n) : seqIndex? (k : Int) n = some k := by
  unfold seqIndex?
  simp
  omega
theorem ne_listsI (xs ys : List Int) : cmD .ne (.list (xs.map .int)) (.list (ys.map .int)) = some (.bool (!decide (xs = ys))) := (encE_lst encE_int).ne (fun xs => lay_lst (lay_map lay_int xs)) xs ys
theorem add_rows (a b : List Int) (h : a.length + b.length ≤ 16777216) : op2 .add (rowD a) (rowD b) = some (rowD (a ++ b)) := by
  have := add_tups (a.map .int) (b.map .int) (by simpa using h)
  rw [← List.map_append] at this
  exact this
theorem hc__law_row : ∀ (ds : List D) (S : Sto) (Q : QD) (E : QX), ds.length = 2 → cRow.run ds S Q E → (m__law_row cUnder).run (startD ["vat", "many", "left", "found"] ds) S (fun _ S' => Q .none S') Q (fun x _ S' => E x S') := by
  rintro ds S Q E _ ⟨a, n, rfl, n0, n1, hv, q⟩
  simp only [m__law_row, startD]
  have hr : rgD 0 n = some ((rangeI n).map .int) := by
    unfold rgD
    rw [if_pos (by omega), rng_eq]
  have hz := size_ge
  have hln := len_rangeI n
  simp [hr, whileS_run, and_assoc]
  refine ⟨by omega, fun p hp => ⟨n.toNat + 1, ?_⟩⟩
  obtain ⟨x0, y0, hS0, _⟩ := hv.ex
  have hpa : p ≠ a := fun z => by rw [z, hS0] at hp; cases hp
  have fr0 : Fr a S (S.put p (.lst ((rangeI n).map .int))) := fun b c n e => by
    rw [Sto.put_ne (by rintro rfl; rw [hp] at e; cases e)]; exact e
  refine whileL_down (fun m ρ S' => ∃ left f : List Int, ρ = [some (refD a), some (.int n), some (refD p), some (rowD f)] ∧ S' p = some (.lst (left.map .int)) ∧ left.length = m ∧ (f ++ left).Perm (rangeI n) ∧ VatOk S' a ∧ Fr a S S') ?_ ?_ n.toNat _ _ ⟨rangeI n, [], rfl, put_at, by simp [len_rangeI], by simp, ?_, fr0⟩
  · rintro m ρ S' ⟨left, f, rfl, hl, hlen, hp1, hv', hf⟩
    have ne := ne_listsI left []
    have nl : left ≠ [] := fun z => by subst z; cases hlen
    simp [decide_eq_false nl] at ne
    simp [rd_lst hl, ne]
    refine ⟨⟨_, hl⟩, ?_⟩
    rw [hlen]
    refine cUnder_run (n := ((m + 1 : Nat) : Int)) (by omega) (by have := hp1.length_eq; simp [hlen] at this; omega) hv' fun r S2 r0 r1 hv2 hf2 hS2 => ?_
    obtain ⟨k, rfl⟩ : ∃ k : Nat, r = k := ⟨r.toNat, by omega⟩
    have hk : k < left.length := by omega
    have lf : f.length + left.length ≤ 64 := by
      have := hp1.length_eq
      rw [List.length_append, len_rangeI] at this
      omega
    refine ⟨left.map .int, k, rfl, by rw [hS2 p hpa]; exact hl, by omega, by omega, k, seqIx_nat _ _ (by simpa using hk), .int left[k], by simp [hk], ?_⟩
    have ad := add_rows f [left[k]] (by simp; omega)
    rw [show (PyData.tuple [.int left[k]] : D) = rowD [left[k]] from rfl, ad]
    refine ⟨_, rfl, left.eraseIdx k, f ++ [left[k]], rfl, ?_, ?_, ?_, ?_, ?_⟩
    · exact eraseIdx_map' _ left k
    · rw [List.length_eraseIdx, if_pos hk]; omega
    · refine List.Perm.trans ?_ hp1
      rw [List.append_assoc]
      refine List.Perm.append_left f ?_
      exact erase_perm left k hk
    · obtain ⟨x, y, h1, h2⟩ := hv2.ex
      exact ⟨⟨x, y, by rw [Sto.put_ne (Ne.symm hpa)]; exact h1, h2⟩⟩
    · intro b c nb e
      rw [Sto.put_ne (by rintro rfl; rw [hp] at e; cases e)]
      exact hf2 b c nb (hf b c nb e)
  · rintro ρ S' ⟨left, f, rfl, hl, hlen, hp1, hv', hf⟩
    obtain rfl : left = [] := List.length_eq_zero_iff.mp hlen
    have ne := ne_listsI [] []
    simp at ne
    simp [rd_lst hl, ne]
    exact q f S' (by simpa using hp1) hv' hf
  · obtain ⟨x, y, h1, h2⟩ := hv.ex
    exact ⟨⟨x, y, by rw [Sto.put_ne (Ne.symm hpa)]; exact h1, h2⟩⟩
end EN

/-! == CH3 == -/
set_option Elab.async false
set_option linter.all false
set_option maxRecDepth 100000
set_option maxHeartbeats 4000000
set_option autoImplicit false
/-! CH3: drawn orders. -/
namespace EN
open PySem PySem.Spec PyProof.Rows L2 PySem.W
def cOrder : C2 := ⟨fun ds S Q E => ∃ (a : Addr) (most : Int), ds = [refD a, .int most] ∧ 1 ≤ most ∧ most ≤ 6 ∧ VatOk S a ∧ ∀ (n : Int) (ps : List IP) (S' : Sto), Good n ps → n ≤ most → VatOk S' a → Fr a S S' → Q (oD n ps) S',
  fun q e ⟨a, n, h1, h2, h3, h4, h5⟩ => ⟨a, n, h1, h2, h3, h4, fun n ps S' g1 g2 g3 g4 => q _ _ (h5 n ps S' g1 g2 g3 g4)⟩⟩
/-- a relation that orders things: what follows from its pairs is a good order -/
theorem good_of {n : Int} {ps R : List IP} (T : Int → Int → Prop) (lo : 1 ≤ n) (hi : n ≤ 6) (tr : ∀ a b c, T a b → T b c → T a c) (irr : ∀ a, ¬ T a a) (h : ∀ p, p ∈ ps → T p.1 p.2) (rg : ∀ p, p ∈ ps → 0 ≤ p.1 ∧ p.1 < n ∧ 0 ≤ p.2 ∧ p.2 < n) (c : IsClo ps R) : Good n R :=
  ⟨lo, hi, fun p hp => by
    have := c.least (fun a b => (0 ≤ a ∧ a < n) ∧ (0 ≤ b ∧ b < n)) (fun q hq => by have := rg q hq; exact ⟨by omega, by omega⟩) (fun a b c h1 h2 => ⟨h1.1, h2.2⟩) p hp
    exact ⟨this.1.1, this.1.2, this.2.1, this.2.2⟩, fun p hp e => irr p.2 (by have := c.least T h tr p hp; rw [e] at this; exact this), c.asc, c.tr⟩
/-- the one comes ahead of the other in a row -/
def Bef (r : List Int) (a b : Int) : Prop := ∃ i j : Nat, i < j ∧ r[i]? = some a ∧ r[j]? = some b
theorem nodup_idx {r : List Int} (nd : r.Nodup) {i j : Nat} {a : Int} (h1 : r[i]? = some a) (h2 : r[j]? = some a) : i = j := by
  have hi : i < r.length := by
    rcases Nat.lt_or_ge i r.length with h | h
    · exact h
    · rw [List.getElem?_eq_none h] at h1; cases h1
  exact (List.getElem?_inj hi nd).mp (h1.trans h2.symm)
theorem bef_tr {r : List Int} (nd : r.Nodup) (a b c : Int) (h : Bef r a b) (k : Bef r b c) : Bef r a c := by
  obtain ⟨i, j, h1, h2, h3⟩ := h
  obtain ⟨i', j', k1, k2, k3⟩ := k
  have := nodup_idx nd h3 k2
  subst this
  exact ⟨i, j', by omega, h2, k3⟩
theorem bef_irr {r : List Int} (nd : r.Nodup) (a : Int) : ¬ Bef r a a := fun ⟨i, j, h1, h2, h3⟩ => by
  have := nodup_idx nd h2 h3
  omega
/-- stretches on a line -/
def Left (es : List IP) (a b : Int) : Prop := ∃ e f : IP, atI es a = some e ∧ atI es b = some f ∧ 1 ≤ f.2 ∧ 1 ≤ e.2 ∧ e.1 + e.2 ≤ f.1
theorem left_tr {es : List IP} (a b c : Int) (h : Left es a b) (k : Left es b c) : Left es a c := by
  obtain ⟨e, f, h1, h2, h3, h4, h5⟩ := h
  obtain ⟨e', f', k1, k2, k3, k4, k5⟩ := k
  rw [h2] at k1
  cases k1
  exact ⟨e, f', h1, k2, k3, h4, by omega⟩
theorem left_irr {es : List IP} (a : Int) : ¬ Left es a a := fun ⟨e, f, h1, h2, h3, h4, h5⟩ => by
  rw [h1] at h2
  cases h2
  omega
theorem rangeI_get {n : Int} {j : Nat} {x : Int} (h : (rangeI n)[j]? = some x) : x = j ∧ (j : Int) < n := by
  obtain ⟨hj, e⟩ := List.getElem?_eq_some_iff.mp h
  rw [len_rangeI] at hj
  have : (rangeI n)[j]'(by rw [len_rangeI]; exact hj) = (j : Int) := by simp [rangeI]
  rw [this] at e
  exact ⟨e.symm, by omega⟩
def rangeIJ (i j : Int) : List Int := (List.range (j - i).toNat).map fun k : Nat => i + ((k : Nat) : Int)
theorem rng2_eq (i j : Int) (h : 0 ≤ i ∧ i ≤ 1000000 ∧ 0 ≤ j ∧ j ≤ 1000000) : rngD2 [.int i, .int j] = some ((rangeIJ i j).map .int) := by
  show (if -(2 ^ 62) ≤ i ∧ i < 2 ^ 62 ∧ -(2 ^ 62) ≤ j ∧ j < 2 ^ 62 then some (rngL i j) else none) = _
  rw [if_pos (by omega)]
  unfold rngL rangeIJ
  simp
theorem mem_rangeIJ {i j x : Int} : x ∈ rangeIJ i j ↔ i ≤ x ∧ x < j := by
  unfold rangeIJ
  rw [List.mem_map]
  constructor
  · rintro ⟨k, hk, rfl⟩
    have := List.mem_range.mp hk
    exact ⟨by omega, by omega⟩
  · rintro ⟨h1, h2⟩
    exact ⟨(x - i).toNat, List.mem_range.mpr (by omega), by omega⟩
theorem len_rangeIJ (i j : Int) : (rangeIJ i j).length = (j - i).toNat := by simp [rangeIJ]
theorem at_row {r : List Int} {k : Nat} {x : Int} (h : r[k]? = some x) : atI (r.map (PyData.int : Int → D)) (k : Int) = some (.int x) := by
  have hk : k < r.length := by
    rcases Nat.lt_or_ge k r.length with h' | h'
    · exact h'
    · rw [List.getElem?_eq_none h'] at h; cases h
  rw [atI_nat _ _ (by simpa using hk), List.getElem?_map, h]; rfl
theorem at_map {X : Type} (f : X → D) (l : List X) (i : Int) : atI (l.map f) i = (atI l i).map f := by
  unfold atI
  rw [List.length_map]
  cases ixN l.length i with
  | none => rfl
  | some k => simp
/-- what the first loops keep -/
structure InvO (a q : Addr) (most n course : Int) (r : List Int) (es : List IP) (S0 : Sto) (lo : Nat) (ρ : Lo) (S : Sto) : Prop where
  sl : ∃ d3 d8, ρ = [some (refD a), some (.int most), some (lsD es), d3, some (.int n), some (.int course), some (rowD r), some (refD q), d8, none, none, none]
  vat : VatOk S a
  fr : Fr a S0 S
  ps : ∃ ps : List IP, S q = some (.lst (ps.map pairD)) ∧ (∀ p, p ∈ ps → Bef r p.1 p.2) ∧ ps.length ≤ lo ∧ (course = 2 → ps = [])
theorem nodup_rangeI (n : Int) : (rangeI n).Nodup := by
  unfold rangeI
  exact List.Pairwise.map _ (fun a b h => by intro e; exact h (by omega)) List.nodup_range
theorem row_nodup {r : List Int} {n : Int} (h : r.Perm (rangeI n)) : r.Nodup := h.nodup_iff.mpr (nodup_rangeI n)
theorem row_mem {r : List Int} {n : Int} (h : r.Perm (rangeI n)) {x : Int} : x ∈ r ↔ 0 ≤ x ∧ x < n := h.mem_iff.trans mem_rangeI
theorem row_len {r : List Int} {n : Int} (h : r.Perm (rangeI n)) : r.length = n.toNat := h.length_eq.trans (len_rangeI n)
theorem rangeIJ_len {i j y : Int} {k : Nat} (h : (rangeIJ i j)[k]? = some y) : (k : Int) < j - i ∧ y = i + k := by
  obtain ⟨hj, e⟩ := List.getElem?_eq_some_iff.mp h
  have hl := hj
  rw [len_rangeIJ] at hl
  have : (rangeIJ i j)[k]'hj = i + (k : Int) := by simp [rangeIJ]
  rw [this] at e
  exact ⟨by omega, e.symm⟩
theorem hc__law_order : ∀ (ds : List D) (S : Sto) (Q : QD) (E : QX), ds.length = 2 → cOrder.run ds S Q E → (m__law_order cUnder cRow (.pure g__law_closed)).run (startD ["vat", "most", "ends", "at", "many", "course", "row_so", "pairs", "later", "one", "thing", "other"] ds) S (fun _ S' => Q .none S') Q (fun x _ S' => E x S') := by
  rintro ds S Q E _ ⟨a, most, rfl, m0, m1, hv, q⟩
  simp only [m__law_order, startD]
  simp [and_assoc]
  refine cUnder_run (by omega) (by omega) hv fun r1 S1 r0 r1l hv1 f1 _ => ?_
  simp
  refine cUnder_run (by omega) (by omega) hv1 fun course S2 c0 c1 hv2 f2 _ => ?_
  have hn : 1 ≤ 1 + r1 ∧ 1 + r1 ≤ most := by omega
  generalize 1 + r1 = n at hn
  refine ⟨a, n, rfl, by omega, by omega, hv2, fun r S3 hr hv3 f3 => ?_⟩
  refine fun p hp => ?_
  rw [rng1_eq n (by omega)]
  simp
  obtain ⟨x3, y3, hS3, _⟩ := hv3.ex
  have hpa : p ≠ a := fun z => by rw [z, hS3] at hp; cases hp
  have hpS : S p = none := by
    cases e : S p with
    | none => rfl
    | some c =>
      have := f3 p c hpa (f2 p c hpa (f1 p c hpa e))
      rw [hp] at this; cases this
  refine lcG_map PyData.int (fun i acc S' => ∃ es : List IP, acc = es.map pairD ∧ es.length = i ∧ (∀ e, e ∈ es → 1 ≤ e.2) ∧ VatOk S' a ∧ Fr a (S3.put p (.lst [])) S') (rangeI n) (fun j x acc S' hx ⟨es, e1, e2, e3, e4, e5⟩ => ?_) ⟨[], rfl, rfl, by simp, ⟨⟨x3, y3, by rw [Sto.put_ne (Ne.symm hpa)]; exact hS3, by assumption⟩⟩, .refl _ _⟩ (fun acc S' ⟨es, e1, e2, e3, e4, e5⟩ => ?_)
  · refine ⟨_, rfl, ?_⟩
    simp
    refine cUnder_run (by omega) (by omega) e4 fun u S4 u0 u1 hv4 f4 _ => ?_
    refine cUnder_run (by omega) (by omega) hv4 fun v S5 v0 v1 hv5 f5 _ => ?_
    have hj := (rangeI_get hx).2
    have hz := size_ge
    subst e1
    have mem : ∀ e : IP, e ∈ es ++ [(u, 1 + v)] → 1 ≤ e.2 := fun e he => by
      rcases List.mem_append.mp he with he | he
      · exact e3 e he
      · rw [List.mem_singleton.mp he]; show 1 ≤ 1 + v; omega
    refine ⟨_, rfl, ?_, es ++ [(u, 1 + v)], ?_, ?_, ?_⟩
    · first | (simp; omega) | omega
    · simp [pairD]
    · simp [e2]
    · first | exact ⟨mem, hv5, (e5.trans f4).trans f5⟩ | exact ⟨fun a b h => mem (a, b) h, hv5, (e5.trans f4).trans f5⟩
  · subst e1
    have hput : (S3.put p (.lst [])) p = some (.lst []) := put_at
    refine forL_map PyData.int (fun i ρ S' => (∃ d3 d8, ρ = [some (refD a), some (.int most), some (lsD es), d3, some (.int n), some (.int course), some (rowD r), some (refD p), d8, none, none, none]) ∧ VatOk S' a ∧ Fr a S S' ∧ ∃ ps : List IP, S' p = some (.lst (ps.map pairD)) ∧ (∀ p, p ∈ ps → Bef r p.1 p.2) ∧ ps.length ≤ 6 * i ∧ (course = 2 → ps = [])) (rangeI n) ?_ ?_ ?_
    · rintro i x ρ S' hx ⟨⟨d3, d8, rfl⟩, hv', hf', ps, h1, h2, h3, h4⟩
      refine ⟨_, rfl, ?_⟩
      obtain ⟨rfl, hi⟩ := rangeI_get hx
      simp
      rw [rng2_eq _ _ (by omega)]
      simp
      refine forL_map PyData.int (fun j ρ S' => (∃ d8, ρ = [some (refD a), some (.int most), some (lsD es), some (.int (i : Nat)), some (.int n), some (.int course), some (rowD r), some (refD p), d8, none, none, none]) ∧ VatOk S' a ∧ Fr a S S' ∧ ∃ ps : List IP, S' p = some (.lst (ps.map pairD)) ∧ (∀ p, p ∈ ps → Bef r p.1 p.2) ∧ ps.length ≤ 6 * i + j ∧ (course = 2 → ps = [])) (rangeIJ ((i : Int) + 1) n) ?_ ?_ ?_
      · rintro j y ρ S' hy ⟨⟨d8, rfl⟩, hv', hf', ps, h1, h2, h3, h4⟩
        refine ⟨_, rfl, ?_⟩
        have hy' := mem_rangeIJ.mp (List.mem_of_getElem? hy)
        simp
        have row : ∀ k : Nat, (k : Int) < n → ∃ x, r[k]? = some x ∧ ixD (rowD r) (.int (k : Nat)) = some (.int x) := fun k hk => by
          have hl := row_len hr
          have hk' : k < r.length := by omega
          exact ⟨r[k], List.getElem?_eq_getElem hk', at_row (List.getElem?_eq_getElem hk')⟩
        by_cases hc : 2 ≤ course
        · exact .inl ⟨hc, hv', hf', ps, h1, fun a b h => h2 (a, b) h, by omega, h4⟩
        · refine .inr ⟨by omega, cUnder_run (by omega) (by omega) hv' fun u S4 u0 u1 hv4 f4 _ => ?_⟩
          have h1' := f4 p _ hpa h1
          simp
          by_cases hu : u = 0
          · subst hu
            obtain ⟨k, rfl⟩ : ∃ k : Nat, y = k := ⟨y.toNat, by omega⟩
            obtain ⟨x1, g1, g2⟩ := row i hi
            obtain ⟨x2, g3, g4⟩ := row k (by omega)
            refine .inr ⟨rfl, ⟨_, h1'⟩, _, g2, _, g4, _, h1', ?_, ?_, ?_, ps ++ [(x1, x2)], ?_, ?_, ?_, ?_⟩
            · have := size_ge
              have hj := (rangeIJ_len hy)
              simp; omega
            · obtain ⟨x, y, z1, z2⟩ := hv4.ex
              exact ⟨⟨x, y, by rw [Sto.put_ne (Ne.symm hpa)]; exact z1, z2⟩⟩
            · intro b c nb e
              rw [Sto.put_ne (by rintro rfl; rw [hpS] at e; cases e)]
              exact f4 b c nb (hf' b c nb e)
            · simp [pairD]
            · intro b c hb
              rcases List.mem_append.mp hb with hb | hb
              · exact h2 (b, c) hb
              · cases List.mem_singleton.mp hb
                exact ⟨i, k, by omega, g1, g3⟩
            · simp; omega
            · intro z; omega
          · exact .inl ⟨hu, hv4, hf'.trans f4, ps, h1', fun a b h => h2 (a, b) h, by omega, h4⟩
      · exact ⟨⟨_, rfl⟩, hv', hf', ps, h1, h2, h3, h4⟩
      · rintro ρ S' ⟨⟨d8, rfl⟩, hv', hf', ps, h1, h2, h3, h4⟩
        rw [len_rangeIJ] at h3
        exact ⟨⟨_, _, rfl⟩, hv', hf', ps, h1, fun a b h => h2 (a, b) h, by omega, h4⟩
    · exact ⟨⟨_, _, rfl⟩, e4, fun b c nb e => e5 b c nb (by
        rw [Sto.put_ne (by rintro rfl; rw [hpS] at e; cases e)]
        exact f3 b c nb (f2 b c nb (f1 b c nb e))), [], e5 p _ hpa hput, fun _ h => (by cases h), by simp, fun _ => rfl⟩
    · rintro ρ S' ⟨⟨d3, d8, rfl⟩, hv', hf', ps, h1, h2, h3, h4⟩
      refine ⟨p, rfl, _, h1, _, rfl, ?_⟩
      simp
      have hm : n ≤ 6 := by omega
      have fin : ∀ (qs : List IP) (S5 : Sto), (∃ T : Int → Int → Prop, (∀ a b c, T a b → T b c → T a c) ∧ (∀ a, ¬ T a a) ∧ ∀ p, p ∈ qs → T p.1 p.2) → (∀ p, p ∈ qs → 0 ≤ p.1 ∧ p.1 < n ∧ 0 ≤ p.2 ∧ p.2 < n) → VatOk S5 a → Fr a S S5 → (C2.pure g__law_closed).run [prsD qs] S5 (fun d S1 => Q (.tuple [.int n, d]) S1) (fun x S1 => E x S1) := by
        rintro qs S5 ⟨T, t1, t2, t3⟩ rg v5 f5
        obtain ⟨R, h5, h6⟩ := law_closed_prs qs fun p hp => by have := rg p hp; omega
        rw [C2.pure_run, h5]
        exact q n R S5 (good_of T hn.1 (by omega) t1 t2 t3 rg h6) hn.2 v5 f5
      have nd := row_nodup hr
      have vd : VatOk (S'.del p) a := by
        obtain ⟨x, y, z1, z2⟩ := hv'.ex
        exact ⟨⟨x, y, by rw [Sto.del_ne (Ne.symm hpa)]; exact z1, z2⟩⟩
      have fd : Fr a S (S'.del p) := fun b c nb e => by
        rw [Sto.del_ne (by rintro rfl; rw [hpS] at e; cases e)]
        exact hf' b c nb e
      by_cases hc : course = 2
      · refine .inr ⟨hc, _, rng1_eq n (by omega), ?_⟩
        obtain rfl := h4 hc
        refine forL_map PyData.int (fun i ρ S' => (∃ qs : List IP, (∃ d9, ρ = [some (refD a), some (.int most), some (lsD es), d3, some (.int n), some (.int course), some (rowD r), some (lsD qs), d8, d9, none, none]) ∧ qs.length ≤ 6 * i ∧ (∀ p, p ∈ qs → Left es p.1 p.2) ∧ ∀ p, p ∈ qs → 0 ≤ p.1 ∧ p.1 < n ∧ 0 ≤ p.2 ∧ p.2 < n) ∧ VatOk S' a ∧ Fr a S S') (rangeI n) ?_ ?_ ?_
        · rintro i x ρ S'' hx ⟨⟨qs, ⟨d9, rfl⟩, g1, g2, g3⟩, g4, g5⟩
          refine ⟨_, rfl, ?_⟩
          obtain ⟨rfl, hi⟩ := rangeI_get hx
          simp
          rw [rng1_eq n (by omega)]
          simp
          have at_ : ∀ k : Nat, (k : Int) < n → ∃ e : IP, atI es (k : Nat) = some e ∧ ixD (lsD es) (.int (k : Nat)) = some (pairD e) ∧ 1 ≤ e.2 := fun k hk => by
            have hk' : k < es.length := by rw [e2, len_rangeI]; omega
            have e0 := atI_nat es k hk'
            rw [List.getElem?_eq_getElem hk'] at e0
            refine ⟨es[k], e0, ?_, e3 _ (List.getElem_mem hk')⟩
            rw [ix_list, at_map, e0]; rfl
          obtain ⟨e, he1, he2, he3⟩ := at_ i hi
          refine lcG_map PyData.int (fun j acc S5 => ∃ l : List IP, acc = l.map pairD ∧ l.length ≤ j ∧ (∀ p, p ∈ l → Left es p.1 p.2) ∧ (∀ p, p ∈ l → 0 ≤ p.1 ∧ p.1 < n ∧ 0 ≤ p.2 ∧ p.2 < n) ∧ S5 = S'') (rangeI n) (fun j y acc S5 hy ⟨l, l1, l2, l3, l4, l5⟩ => ?_) ⟨[], rfl, by simp, fun _ h => (by cases h), fun _ h => (by cases h), rfl⟩ (fun acc S5 ⟨l, l1, l2, l3, l4, l5⟩ => ?_)
          · refine ⟨_, rfl, ?_⟩
            subst l1 l5
            obtain ⟨rfl, hj⟩ := rangeI_get hy
            obtain ⟨f, hf1, hf2, hf3⟩ := at_ j hj
            simp [he2, hf2, pairD]
            by_cases ht : e.1 + e.2 ≤ f.1
            · refine .inr ⟨ht, by have := size_ge; omega, l ++ [((i : Int), (j : Int))], by simp [pairD], by simp; omega, ?_, ?_⟩
              · intro a b hab
                rcases List.mem_append.mp hab with hab | hab
                · exact l3 (a, b) hab
                · cases List.mem_singleton.mp hab
                  exact ⟨e, f, he1, hf1, hf3, he3, ht⟩
              · intro a b hab
                rcases List.mem_append.mp hab with hab | hab
                · exact l4 (a, b) hab
                · cases List.mem_singleton.mp hab
                  exact ⟨by omega, hi, by omega, hj⟩
            · exact .inl ⟨by omega, l, rfl, by omega, fun a b h => l3 (a, b) h, fun a b h => l4 (a, b) h⟩
          · subst l1 l5
            rw [len_rangeI] at l2
            have ad := add_lists (qs.map pairD) (l.map pairD) (by simp; omega)
            rw [ad]
            refine ⟨_, rfl, ⟨qs ++ l, by simp, by simp; omega, ?_, ?_⟩, g4, g5⟩
            · intro a b hp
              exact (List.mem_append.mp hp).elim (g2 (a, b)) (l3 (a, b))
            · intro a b hp
              exact (List.mem_append.mp hp).elim (g3 (a, b)) (l4 (a, b))
        · exact ⟨⟨[], ⟨_, rfl⟩, by simp, fun _ h => (by cases h), fun _ h => (by cases h)⟩, vd, fd⟩
        · rintro ρ S'' ⟨⟨qs, ⟨d9, rfl⟩, g1, g2, g3⟩, g4, g5⟩
          exact ⟨_, rfl, _, rfl, _, rfl, fin qs S'' ⟨Left es, left_tr, left_irr, g2⟩ g3 g4 g5⟩
      · refine .inl ⟨hc, fin ps _ ⟨Bef r, bef_tr nd, bef_irr nd, h2⟩ (fun p hp => ?_) vd fd⟩
        obtain ⟨i, j, z1, z2, z3⟩ := h2 p hp
        have z2 := (row_mem hr).mp (List.mem_of_getElem? z2)
        have z3 := (row_mem hr).mp (List.mem_of_getElem? z3)
        omega
end EN

/-! == CH4 == -/
set_option Elab.async false
set_option linter.all false
set_option maxRecDepth 100000
set_option maxHeartbeats 4000000
set_option autoImplicit false
/-! CH4: errors that are told, values that are refused; small defs with cells. -/
namespace EN
open PySem PySem.Spec PyProof.Rows L2 PySem.W
def zipHD (ds : List D) : Option (List D) := match ds with
  | [.list a, .list b] => some (zipL a b)
  | _ => none
section
variable {ρ : Lo} {S : Sto} {E : QX} {Q : D → Sto → Prop}
@[simp] theorem M.lam_run (n len : Nat) (js : List Nat) (body : M D) (cG : C2 → Addr → C2) (t : M (List D)) : (M.lam n len js body cG t).run ρ S Q E = ∃ caps : List D, js.map (fun j => ρ[j]?) = caps.map (fun d => some (some d)) ∧ t.run ρ S (fun ds S2 => ds.length = n ∧ ∀ f, (cG (lamC len caps body) f).run (refD f :: ds) S2 Q E) E := rfl
@[simp] theorem M.callv_run (i n : Nat) (G : D → C2 → Prop) (t : M (List D)) : (M.callv i n G t).run ρ S Q E = ∃ d c, ρ[i]? = some (some d) ∧ G d c ∧ t.run ρ S (fun ds S2 => ds.length = n ∧ c.run ds S2 Q E) E := rfl
@[simp] theorem M.callv0_run (i : Nat) (G : D → C2 → Prop) : (M.callv0 i G).run ρ S Q E = ∃ d c, ρ[i]? = some (some d) ∧ G d c ∧ c.run [] S Q E := rfl
@[simp] theorem M.zipH_run (t : M (List D)) (Q : List D → Sto → Prop) : (M.zipH t).run ρ S Q E = t.run ρ S (fun ds S1 => ∃ es, zipHD ds = some es ∧ Q es S1) E := rfl
@[simp] theorem zipHD_two (a b : List D) : zipHD [.list a, .list b] = some (zipL a b) := rfl
@[simp] theorem M.listC_run (m : M D) : (M.listC m).run ρ S Q E = m.run ρ S (fun d S1 => ∃ ds, asL d = some ds ∧ (ds.length ≤ sizeLine ∧ ∀ p, S1 p = none → Q (refD p) (S1.put p (.lst ds)))) E := rfl
@[simp] theorem isE_run (i : Nat) (a : Addr) (b : Bool) : (isE i a b).run ρ S Q E = ∃ d, ρ[i]? = some (some d) ∧ ∃ e, (if asRef d = some a then some (PyData.bool b) else none) = some e ∧ Q e S := rfl
variable {nx : Lo → Sto → Prop} {rt : D → Sto → Prop} {xs : Str → Lo → Sto → Prop}
@[simp] theorem MS.tryN_run (i : Nat) (body : MS) (nm : Str → Option Str) (wrap : Str → D) : (MS.tryN i body nm wrap).run ρ S nx rt xs = body.run ρ S nx rt (fun x ρ' S' => ∃ t, nm x = some t ∧ i < ρ'.length ∧ rt (wrap t) S') := rfl
end
theorem del_put {S : Sto} {p : Addr} {c : Cell} (h : S p = none) : (S.put p c).del p = S := by
  funext b
  by_cases e : b = p
  · subst e; rw [Sto.del_same, h]
  · rw [Sto.del_ne e, Sto.put_ne e]
/-! ### the names of an error -/
def labelS : Str := "order row lot thing number pair pairs facts place text contrary unlike undo many value"
def labels : List Str := ["order", "row", "lot", "thing", "number", "pair", "pairs", "facts", "place", "text", "contrary", "unlike", "undo", "many", "value"]
def tellS (bits : List Bool) : Str := Txt.join " " (pick labels bits)
theorem split_labels : splitD (.str labelS) (.str " ") = some (.list (labels.map .str)) := by
  have h : ((" " : Str).length ≠ 0 ∧ labelS.length + 2 ≤ sizeLine) := by rw [sizeLine_eq]; decide +kernel
  show (if (" " : Str).length ≠ 0 ∧ labelS.length + 2 ≤ sizeLine then some (PyData.list ((Txt.split labelS " ").map .str)) else none) = _
  rw [if_pos h]
  have e : Txt.split labelS " " = labels := by decide +kernel
  rw [e]
theorem pick_sum : ∀ (ws : List Str) (bs : List Bool), ((pick ws bs).map (·.length)).sum ≤ (ws.map (·.length)).sum ∧ (pick ws bs).length ≤ ws.length
  | [], bs => by simp [pick]
  | w :: ws, [] => by simp [pick]
  | w :: ws, b :: bs => by
    have := pick_sum ws bs
    unfold pick
    split
    · simp; omega
    · simp; omega
theorem join_pick (bs : List Bool) : joinD (.str " ") (.list ((pick labels bs).map .str)) = some (.str (tellS bs)) := by
  show ((asStrs ((pick labels bs).map .str)).bind fun ys => if (ys.map (·.length)).sum + ys.length * (" " : Str).length ≤ 16777216 then some (PyData.str (Txt.join " " ys)) else none) = _
  rw [asStrs_map]
  have h := pick_sum labels bs
  have h1 : (labels.map (·.length)).sum ≤ 1000 := by decide +kernel
  have h2 : labels.length = 15 := by decide
  have h3 : (" " : Str).length = 1 := by decide +kernel
  rw [h2] at h
  show (if ((pick labels bs).map (·.length)).sum + (pick labels bs).length * (" " : Str).length ≤ 16777216 then some (PyData.str (Txt.join " " (pick labels bs))) else none) = _
  rw [h3, if_pos (by omega)]; rfl
theorem names_run (a : Addr) (bits : List Bool) (hl : bits.length = 15) (S : Sto) (Q : D → Sto → Prop) (h : Q (.str (tellS bits)) S) (nx : Lo → Sto → Prop) (xs : Str → Lo → Sto → Prop) : (m__law_names a bits).run (startD ["e", "some", "labels", "word", "good"] [refD a]) S nx Q xs := by
  have hb : ∃ b0 b1 b2 b3 b4 b5 b6 b7 b8 b9 b10 b11 b12 b13 b14, bits = [b0, b1, b2, b3, b4, b5, b6, b7, b8, b9, b10, b11, b12, b13, b14] := by
    match bits, hl with
    | [b0, b1, b2, b3, b4, b5, b6, b7, b8, b9, b10, b11, b12, b13, b14], _ => exact ⟨b0, b1, b2, b3, b4, b5, b6, b7, b8, b9, b10, b11, b12, b13, b14, rfl⟩
  obtain ⟨b0, b1, b2, b3, b4, b5, b6, b7, b8, b9, b10, b11, b12, b13, b14, rfl⟩ := hb
  have sp := split_labels
  unfold labelS at sp
  simp only [m__law_names, startD]
  simp [asRef_ref, isTy, sp]
  have := lc_pick (vs := [3, 4]) (i := 3) (j := 4) (K := fun acc S2 => ∃ e, joinD (.str " ") (.list acc) = some e ∧ Q e S2) (by decide) labels [b0, b1, b2, b3, b4, b5, b6, b7, b8, b9, b10, b11, b12, b13, b14] [] [some (refD a), some (.list ([b0, b1, b2, b3, b4, b5, b6, b7, b8, b9, b10, b11, b12, b13, b14].map .bool)), some (.str labelS), none, none] S (by simp) (by simp) (by rw [sizeLine_eq]; decide) ⟨_, join_pick _, h⟩
  exact this
/-! ### told errors -/
def gOne (d0 : D) (c0 : C2) : D → C2 → Prop := fun d c => d = d0 ∧ c = c0
theorem hc__law_error (nm : Str → Option Str) (d0 : D) (cc : C2) : ∀ (ds : List D) (S : Sto) (Q : QD) (E : QX), ds.length = 1 → (cErr nm (fun _ => .str "") .str cc d0).run ds S Q E → (m__law_error (gOne d0 cc) nm).run (startD ["call", "e"] ds) S (fun _ S' => Q .none S') Q (fun x _ S' => E x S') := by
  rintro ds S Q E _ ⟨rfl, h⟩
  simp only [m__law_error, startD]
  simp [gOne]
  exact cc.mono (fun d S1 k => k) (fun x S1 k => k) h
theorem hc__law_told (nm : Str → Option Str) (d0 : D) (cc : C2) : ∀ (ds : List D) (S : Sto) (Q : QD) (E : QX), ds.length = 1 → (cErr nm (fun d => .tuple [d, .str ""]) (fun t => .tuple [.none, .str t]) cc d0).run ds S Q E → (m__law_told (gOne d0 cc) nm).run (startD ["call", "e"] ds) S (fun _ S' => Q .none S') Q (fun x _ S' => E x S') := by
  rintro ds S Q E _ ⟨rfl, h⟩
  simp only [m__law_told, startD]
  simp [gOne]
  exact cc.mono (fun d S1 k => k) (fun x S1 k => k) h
/-- all of some values are refused -/
def cAll (nm : Str → Option Str) (cc : C2) (d0 : D) : C2 := ⟨fun ds S Q E => ∃ (odds : List D) (name : Str), ds = [d0, .list odds, .str name] ∧ PyData.canLay0 (.str name) = true ∧ (∀ odd, odd ∈ odds → cc.run [odd] S (fun _ _ => False) (fun x S1 => nm x = some name ∧ S1 = S)) ∧ Q (.bool true) S,
  fun q e ⟨odds, name, h1, h0, h2, h3⟩ => ⟨odds, name, h1, h0, h2, q _ _ h3⟩⟩
theorem hc__law_all_refused (nm : Str → Option Str) (d0 : D) (cc : C2) : ∀ (ds : List D) (S : Sto) (Q : QD) (E : QX), ds.length = 3 → (cAll nm cc d0).run ds S Q E → (m__law_all_refused (fun c f => cErr nm (fun _ => .str "") .str c (refD f)) (gOne d0 cc)).run (startD ["call", "odds", "name", "odd"] ds) S (fun _ S' => Q .none S') Q (fun x _ S' => E x S') := by
  rintro ds S Q E _ ⟨odds, name, rfl, h0, h, q⟩
  simp only [m__law_all_refused, startD]
  simp
  have ne : cmD .ne (.str name) (.str name) = some (.bool false) := by
    show ((eqD (.str name) (.str name)).map (!·)).map PyData.bool = _
    unfold eqD
    have l : Lay 0 (.str name) := ⟨h0, Nat.le_refl _⟩
    rw [l.shaped, show PyData.eqv (.str name) (.str name) = (name == name) from rfl]
    simp
  have e0 := ne_lists [] []
  have eq0 : cmD .eq (.list []) (.list []) = some (.bool true) := by
    have := (encE_lst encE_int).eq (fun xs => lay_lst (lay_map lay_int xs)) [] []
    simpa using this
  have := lcG_map (vs := [3]) (tg := tgN 3) (mt := (.bool (.op2 false false (cmD .ne) (.lam 0 2 [0, 3] (.callv 0 1 (gOne d0 cc) (.cons (.var 1) .nil)) (fun c f => cErr nm (fun _ => .str "") .str c (refD f)) .nil) (.var 2)))) (me := .var 3) (K := fun acc S2 => ∃ d, cmD .eq (.list acc) (.list []) = some d ∧ Q d S2) (ρ := [some d0, some (.list odds), some (.str name), none]) (fun d => d)
    (fun i acc S' => acc = [] ∧ S' = S) odds (S := S) (fun j x acc S' hx ⟨h1, h2⟩ => ⟨_, rfl, by
      subst h1 h2
      simp
      refine ⟨[d0, x], rfl, fun f => ⟨rfl, ?_⟩⟩
      show (M.callv 0 1 (gOne d0 cc) (.cons (.var 1) .nil)).run ([d0, x].map some ++ []) S' _ _
      simp [gOne]
      exact cc.mono (fun _ _ z => z.elim) (fun y S1 ⟨z1, z2⟩ => ⟨name, z1, _, ne, by subst z2; exact ⟨rfl, rfl⟩⟩) (h x (List.mem_of_getElem? hx))⟩) ⟨rfl, rfl⟩ (fun acc S' ⟨h1, h2⟩ => by subst h1 h2; exact ⟨_, eq0, q⟩)
  simpa using this
end EN

/-! == CT == -/
set_option Elab.async false
set_option linter.all false
set_option maxRecDepth 100000
set_option maxHeartbeats 4000000
set_option autoImplicit false
/-! CT: what a law's lambdas and names are worth. -/
namespace EN
open PySem PySem.Spec PyProof.Rows L2
def gAny (l : List (Str × C2)) : D → C2 → Prop := fun d c => ∃ p, p ∈ l ∧ d = fnD p.1 ∧ c = p.2
abbrev gErr (nm : Str → Option Str) : C2 → Addr → C2 := fun c f => cErr nm (fun _ => .str "") .str c (refD f)
abbrev gTold (nm : Str → Option Str) : C2 → Addr → C2 := fun c f => cErr nm (fun d => .tuple [d, .str ""]) (fun t => .tuple [.none, .str t]) c (refD f)
abbrev gAll (nm : Str → Option Str) : C2 → Addr → C2 := fun c f => cAll nm c (refD f)
end EN

/-! == T4 == -/
set_option Elab.async false
set_option linter.all false
set_option maxRecDepth 100000
set_option maxHeartbeats 4000000
set_option autoImplicit false
/-! T4: what a name may hold that is called; levels; the names of errors. -/
namespace EN
open PySem PySem.Spec PyProof.Rows L2 He
section
variable {F : Fx} {P : Program} {w : World} {base : Heap} {j k n : Nat} {c : C2} {x : Str}
theorem FnD.lift (h : FnD F P w base x j n c) (e : j ≤ k) : FnD F P w base x k n c := by
  obtain ⟨f, fd, ps, h1, h2, h3, h4, h5⟩ := h.ex
  exact ⟨f, fd, ps, h1, h2, h3, h4, h5.mono e⟩
theorem FnA.lift (h : FnA P w F x j n c) (e : j ≤ k) : FnA P w F x k n c := fun F' b le => (h F' b le).lift e
theorem FnA.up {F' : Fx} (h : FnA P w F x j n c) (le : FxLe F F') : FnA P w F' x j n c := fun F2 b le2 => h F2 b (le.trans le2)
theorem calG_clo {f : Addr} (h : CloD F P w base f j n c) : CalG F P w base (gOne (refD f) c) j n :=
  ⟨fun d c' ⟨e1, e2⟩ => by subst e1 e2; exact .clo h, fun F' b' le bl d c' ⟨e1, e2⟩ => by subst e1 e2; exact .clo (h.up le bl)⟩
theorem calG_fn (h : FnA P w F x j n c) : CalG F P w base (gOne (fnD x) c) j n :=
  ⟨fun d c' ⟨e1, e2⟩ => by subst e1 e2; exact .fn (h F base (FxLe.refl F)), fun F' b' le bl d c' ⟨e1, e2⟩ => by subst e1 e2; exact .fn (h F' b' le)⟩
theorem calG_any {l : List (Str × C2)} (h : ∀ p, p ∈ l → FnA P w F p.1 j n p.2) : CalG F P w base (gAny l) j n :=
  ⟨fun d c' ⟨p, hp, e1, e2⟩ => by subst e1 e2; exact .fn (h p hp F base (FxLe.refl F)), fun F' b' le bl d c' ⟨p, hp, e1, e2⟩ => by subst e1 e2; exact .fn (h p hp F' b' le)⟩
theorem all_nil {p : Str × C2 → Prop} : ∀ q, q ∈ ([] : List (Str × C2)) → p q := fun q h => (by cases h)
theorem all_cons {p : Str × C2 → Prop} {a : Str × C2} {l : List (Str × C2)} (h : p a) (t : ∀ q, q ∈ l → p q) : ∀ q, q ∈ a :: l → p q := fun q hq => by
  rcases List.mem_cons.mp hq with e | hq
  · rw [e]; exact h
  · exact t q hq
end
/-- the tests' answers tell what is told -/
def HL.tellB (L : HL) : Bool := L.errs.all fun p => decide (p.2.2.length = 15) && (tellS p.2.2 == p.2.1)
theorem HL.tell_ok {L : HL} (h : L.tellB = true) {p : Str × Str × List Bool} (hp : p ∈ L.errs) : p.2.2.length = 15 ∧ tellS p.2.2 = p.2.1 := by
  obtain ⟨h1, h2⟩ := ba (List.all_eq_true.mp h p hp)
  exact ⟨of_decide_eq_true h1, beq_iff_eq.mp h2⟩
theorem cVat_eq {F F2 : Fx} (le : FxLe F F2) : cVat F2 = cVat F := by
  obtain ⟨K, mg, T, scr, cod, cap, xds⟩ := F
  obtain ⟨K', mg', T', scr', cod', cap', xds'⟩ := F2
  have e : scr' = scr := le.scr
  subst e
  rfl
end EN

/-! == R06 == -/
set_option Elab.async false
set_option linter.all false
set_option maxRecDepth 100000
set_option maxHeartbeats 4000000
set_option autoImplicit false
/-! R06: the names of the law's top (printed by head.py). -/
namespace K06
open PySem PySem.Spec PyProof.Rows L2 EN
def top (i : Nat) : Stmt := PySem.Challenge.pw_equalsnear_k06_orders_joined_and_parts.main.body.getD i (.Pass ⟨0, 0, 0, 0⟩)
def stI : Stmt := match top 15 with
  | .ClassDef _ _ _ b _ _ _ _ _ _ _ => b.getD 0 (.Pass ⟨0, 0, 0, 0⟩)
  | _ => .Pass ⟨0, 0, 0, 0⟩
def HLS : HL where
  frees := (["isinstance", "int", "bool", "tuple", "len", "all", "zip", "sorted", "list", "range", "abs", "set", "ValueError", "max", "min"] : List Str)
  nums := [("MOST_THINGS", 6)]
  fns := ([("is_whole", top 18), ("is_pair", top 19), ("is_rising", top 20), ("follows", top 21), ("is_good", top 22), ("is_lot", top 23), ("need_order", top 24), ("need_lot", top 25), ("turned_of", top 27), ("both", top 28), ("part_of", top 29), ("turned", top 30), ("stacked", top 31), ("beside", top 32), ("part", top 33), ("_law_vat", top 35), ("_law_under", top 36), ("_law_closed", top 37), ("_law_row", top 38), ("_law_order", top 39), ("_law_names", top 40), ("_law_error", top 41), ("_law_told", top 42), ("_law_all_refused", top 43), ("_law_known", top 44)] : List (Str × Stmt)) ++ ([("_law_bad_orders", top 45), ("_law_both", top 46), ("law", top 47)] : List (Str × Stmt))
  excs := ["InvalidOrder", "InvalidLot"]
  errs := [("InvalidOrder", "order value", [true, false, false, false, false, false, false, false, false, false, false, false, false, false, true]), ("InvalidLot", "lot value", [false, false, true, false, false, false, false, false, false, false, false, false, false, false, true]), ("TooMany", "many value", [false, false, false, false, false, false, false, false, false, false, false, false, false, true, true])]
  tests := [("InvalidOrder", none), ("InvalidRow", none), ("InvalidLot", none), ("InvalidThing", none), ("InvalidNumber", none), ("InvalidPair", none), ("InvalidPairs", none), ("InvalidFacts", none), ("InvalidPlace", none), ("InvalidText", none), ("Contrary", none), ("Unlike", none), ("NothingToUndo", none), ("TooMany", none), ("ValueError", some "ValueError")]
  lams := ["_law_all_refused", "law"]
  tm := none
end K06

/-! == W06 == -/
set_option Elab.async false
set_option linter.all false
set_option maxRecDepth 100000
set_option maxHeartbeats 4000000
set_option autoImplicit false
/-! W06: the walks (printed by gen.py). -/
namespace K06
open PySem PySem.Spec PyProof.Rows L2 EN
section
variable {F : Fx} {P : Program} {w : World} {base : Heap}
/-! is_whole -/
abbrev s_is_whole : Stmt := top 18
abbrev N_is_whole : List Str := ["value", "low", "high"]
theorem sc_is_whole : FnScope N_is_whole ["value", "low", "high"] (defScope s_is_whole) := ⟨rfl, rfl, rfl, by decide +kernel, rfl, by decide +kernel, by decide +kernel⟩
theorem b_is_whole {k : Nat} (bn : ∀ x, x ∈ (["bool", "int", "isinstance"] : List Str) → F.mg x = none) (f : Addr) (cdv : Value) (A : Around) (outer : List Env) (s : Shared) (H : Hp) (E : XK)
    (g : Gd F (cxOf (L2N.CX P w) P w F.K F.mg base N_is_whole "is_whole" (defScope s_is_whole) f cdv A outer s H E) (fun cls d _ H => E cls d H) k) :
    PSs (cxOf (L2N.CX P w) P w F.K F.mg base N_is_whole "is_whole" (defScope s_is_whole) f cdv A outer s H E) (defBody s_is_whole) (tS F (fun cls d _ H => E cls d H) (m_is_whole)) :=
  (ss_one (s_ret (e_and (e_isi (T := "int") false rfl (bn "isinstance" (by decide +kernel)) (ev 0) rfl (bn "int" (by decide +kernel)) PyProof.Rows.boot_int) (e_and (e_not (e_isi (T := "bool") false rfl (bn "isinstance" (by decide +kernel)) (ev 0) rfl (bn "bool" (by decide +kernel)) PyProof.Rows.boot_bool)) (e_one (e_chain g.cx .le .le (ev 1) (ev 0) (ev 2)))))))

/-! is_pair -/
abbrev s_is_pair : Stmt := top 19
abbrev N_is_pair : List Str := ["many", "value", "one"]
theorem sc_is_pair : FnScope N_is_pair ["many", "value"] (defScope s_is_pair) := ⟨rfl, rfl, rfl, by decide +kernel, rfl, by decide +kernel, by decide +kernel⟩
theorem b_is_pair {k : Nat} (c_is_whole : C2) {j_is_whole : Nat} (h_is_whole : FnA P w F "is_whole" j_is_whole 3 c_is_whole) (l_is_whole : j_is_whole ≤ k) (bn : ∀ x, x ∈ (["all", "isinstance", "len", "tuple"] : List Str) → F.mg x = none) (f : Addr) (cdv : Value) (A : Around) (outer : List Env) (s : Shared) (H : Hp) (E : XK)
    (g : Gd F (cxOf (L2N.CX P w) P w F.K F.mg base N_is_pair "is_pair" (defScope s_is_pair) f cdv A outer s H E) (fun cls d _ H => E cls d H) k) :
    PSs (cxOf (L2N.CX P w) P w F.K F.mg base N_is_pair "is_pair" (defScope s_is_pair) f cdv A outer s H E) (defBody s_is_pair) (tS F (fun cls d _ H => E cls d H) (m_is_pair c_is_whole)) :=
  (ss_cons (s_if (t_w (w_or (t_not (t_val (e_isi (T := "tuple") false rfl (bn "isinstance" (by decide +kernel)) (ev 1) rfl (bn "tuple" (by decide +kernel)) PyProof.Rows.boot_tuple))) (w_or (t_cmp g.cx .ne false false (e_callB false (len_ok g.cx) rfl (bn "len" (by decide +kernel)) PySem.boot_len (ev 1)) e_int) (w_or1 (t_not (t_val (e_callB false (all_ok g.cx) rfl (bn "all" (by decide +kernel)) PyProof.Rows.boot_all (e_lc (own := [("one", 2)]) g.cx (by decide) (i_seq (ev 1)) (blkOk_by (by with_unfolding_all rfl)) (fun s1 H1 C1 cl1 fp1 => (g_name (i := 2) ((g).cx.blk s1 H1 _ _ _).nd rfl (by first | exact Or.inl rfl | exact Or.inr rfl))) (fun s1 H1 C1 cl1 fp1 => t_yes) (fun s1 H1 C1 cl1 fp1 => (e_call ((g).blk s1 H1 _ _ _) (h_is_whole F base (FxLe.refl F)) l_is_whole rfl (a_cons (ev 2) (a_cons e_int (a_cons (e_bin ((g).cx.blk s1 H1 _ _ _) .sub false false (ev 0) e_int) a_nil))))))))))))) (ss_one (s_ret e_bl)) ss_nil)
    (ss_one (s_ret (e_cmp g.cx .ne false false (e_ix false (ev 1) e_int) (e_ix false (ev 1) e_int)))))

/-! is_rising -/
abbrev s_is_rising : Stmt := top 20
abbrev N_is_rising : List Str := ["value", "one", "other"]
theorem sc_is_rising : FnScope N_is_rising ["value"] (defScope s_is_rising) := ⟨rfl, rfl, rfl, by decide +kernel, rfl, by decide +kernel, by decide +kernel⟩
theorem b_is_rising {k : Nat} (bn : ∀ x, x ∈ (["all", "zip"] : List Str) → F.mg x = none) (f : Addr) (cdv : Value) (A : Around) (outer : List Env) (s : Shared) (H : Hp) (E : XK)
    (g : Gd F (cxOf (L2N.CX P w) P w F.K F.mg base N_is_rising "is_rising" (defScope s_is_rising) f cdv A outer s H E) (fun cls d _ H => E cls d H) k) :
    PSs (cxOf (L2N.CX P w) P w F.K F.mg base N_is_rising "is_rising" (defScope s_is_rising) f cdv A outer s H E) (defBody s_is_rising) (tS F (fun cls d _ H => E cls d H) (m_is_rising)) :=
  (ss_one (s_ret (e_callB false (all_ok g.cx) rfl (bn "all" (by decide +kernel)) PyProof.Rows.boot_all (e_lc (own := [("one", 1), ("other", 2)]) g.cx (by decide) (i_zip rfl (bn "zip" (by decide +kernel)) (a_cons (ev 0) (a_cons (e_slice false (ev 0) (o_some e_int) o_none) a_nil))) (blkOk_by (by with_unfolding_all rfl)) (fun s1 H1 C1 cl1 fp1 => (g_tupP (is := [1, 2]) ((g).cx.blk s1 H1 _ _ _).calm (gs_cons (i := 1) ((g).cx.blk s1 H1 _ _ _).nd rfl (by first | exact Or.inl rfl | exact Or.inr rfl) (gs_cons (i := 2) ((g).cx.blk s1 H1 _ _ _).nd rfl (by first | exact Or.inl rfl | exact Or.inr rfl) gs_nil)))) (fun s1 H1 C1 cl1 fp1 => t_yes) (fun s1 H1 C1 cl1 fp1 => (e_cmp ((g).cx.blk s1 H1 _ _ _) .lt false false (ev 1) (ev 2)))))))

/-! follows -/
abbrev s_follows : Stmt := top 21
abbrev N_follows : List Str := ["pairs", "one", "other", "first", "more"]
theorem sc_follows : FnScope N_follows ["pairs"] (defScope s_follows) := ⟨rfl, rfl, rfl, by decide +kernel, rfl, by decide +kernel, by decide +kernel⟩
theorem b_follows {k : Nat} (bn : ∀ x, x ∈ (["all"] : List Str) → F.mg x = none) (f : Addr) (cdv : Value) (A : Around) (outer : List Env) (s : Shared) (H : Hp) (E : XK)
    (g : Gd F (cxOf (L2N.CX P w) P w F.K F.mg base N_follows "follows" (defScope s_follows) f cdv A outer s H E) (fun cls d _ H => E cls d H) k) :
    PSs (cxOf (L2N.CX P w) P w F.K F.mg base N_follows "follows" (defScope s_follows) f cdv A outer s H E) (defBody s_follows) (tS F (fun cls d _ H => E cls d H) (m_follows)) :=
  (ss_one (s_ret (e_callB false (all_ok g.cx) rfl (bn "all" (by decide +kernel)) PyProof.Rows.boot_all (e_lc2 (own := [("one", 1), ("other", 2), ("first", 3), ("more", 4)]) (vs1 := [3, 4]) g.cx (by decide) (by decide) (i_seq (ev 0)) (blkOk_by (by with_unfolding_all rfl)) (by decide) (fun s1 H1 C1 cl1 fp1 => (g_tup (is := [1, 2]) ((g).cx.blk s1 H1 _ _ _).calm (gs_cons (i := 1) ((g).cx.blk s1 H1 _ _ _).nd rfl (by first | exact Or.inl rfl | exact Or.inr rfl) (gs_cons (i := 2) ((g).cx.blk s1 H1 _ _ _).nd rfl (by first | exact Or.inl rfl | exact Or.inr rfl) gs_nil)))) (fun s1 H1 C1 cl1 fp1 => (i_seq (ev 0))) (fun s1 H1 C1 cl1 fp1 => (g_tup (is := [3, 4]) ((g).cx.blk s1 H1 _ _ _).calm (gs_cons (i := 3) ((g).cx.blk s1 H1 _ _ _).nd rfl (by first | exact Or.inl rfl | exact Or.inr rfl) (gs_cons (i := 4) ((g).cx.blk s1 H1 _ _ _).nd rfl (by first | exact Or.inl rfl | exact Or.inr rfl) gs_nil)))) (fun s1 H1 C1 cl1 fp1 => (pts_one (t_cmp ((g).cx.blk s1 H1 _ _ _) .eq false false (ev 3) (ev 2)))) (fun s1 H1 C1 cl1 fp1 => (e_cmp ((g).cx.blk s1 H1 _ _ _) .inn false false (e_tup (a_cons (ev 1) (a_cons (ev 4) a_nil))) (ev 0)))))))

/-! is_good -/
abbrev s_is_good : Stmt := top 22
abbrev N_is_good : List Str := ["value", "pair"]
theorem sc_is_good : FnScope N_is_good ["value"] (defScope s_is_good) := ⟨rfl, rfl, rfl, by decide +kernel, rfl, by decide +kernel, by decide +kernel⟩
theorem b_is_good {k : Nat} (c_is_whole : C2) (c_is_pair : C2) (c_is_rising : C2) (c_follows : C2) {j_is_whole : Nat} (h_is_whole : FnA P w F "is_whole" j_is_whole 3 c_is_whole) {j_is_pair : Nat} (h_is_pair : FnA P w F "is_pair" j_is_pair 2 c_is_pair) {j_is_rising : Nat} (h_is_rising : FnA P w F "is_rising" j_is_rising 1 c_is_rising) {j_follows : Nat} (h_follows : FnA P w F "follows" j_follows 1 c_follows) (l_is_whole : j_is_whole ≤ k) (l_is_pair : j_is_pair ≤ k) (l_is_rising : j_is_rising ≤ k) (l_follows : j_follows ≤ k) (gc_MOST_THINGS : GlC F "MOST_THINGS" (.int 6)) (bn : ∀ x, x ∈ (["all", "isinstance", "len", "tuple"] : List Str) → F.mg x = none) (f : Addr) (cdv : Value) (A : Around) (outer : List Env) (s : Shared) (H : Hp) (E : XK)
    (g : Gd F (cxOf (L2N.CX P w) P w F.K F.mg base N_is_good "is_good" (defScope s_is_good) f cdv A outer s H E) (fun cls d _ H => E cls d H) k) :
    PSs (cxOf (L2N.CX P w) P w F.K F.mg base N_is_good "is_good" (defScope s_is_good) f cdv A outer s H E) (defBody s_is_good) (tS F (fun cls d _ H => E cls d H) (m_is_good c_is_whole c_is_pair c_is_rising c_follows)) :=
  (ss_cons (s_if (t_w (w_or (t_not (t_val (e_isi (T := "tuple") false rfl (bn "isinstance" (by decide +kernel)) (ev 0) rfl (bn "tuple" (by decide +kernel)) PyProof.Rows.boot_tuple))) (w_or (t_cmp g.cx .ne false false (e_callB false (len_ok g.cx) rfl (bn "len" (by decide +kernel)) PySem.boot_len (ev 0)) e_int) (w_or1 (t_not (t_val (e_call g (h_is_whole F base (FxLe.refl F)) l_is_whole rfl (a_cons (e_ix false (ev 0) e_int) (a_cons e_int (a_cons (gc_MOST_THINGS.e rfl) a_nil)))))))))) (ss_one (s_ret e_bl)) ss_nil)
    (ss_cons (s_if (t_w (w_or (t_not (t_val (e_isi (T := "tuple") false rfl (bn "isinstance" (by decide +kernel)) (e_ix false (ev 0) e_int) rfl (bn "tuple" (by decide +kernel)) PyProof.Rows.boot_tuple))) (w_or1 (t_not (t_val (e_callB false (all_ok g.cx) rfl (bn "all" (by decide +kernel)) PyProof.Rows.boot_all (e_lc (own := [("pair", 1)]) g.cx (by decide) (i_seq (e_ix false (ev 0) e_int)) (blkOk_by (by with_unfolding_all rfl)) (fun s1 H1 C1 cl1 fp1 => (g_name (i := 1) ((g).cx.blk s1 H1 _ _ _).nd rfl (by first | exact Or.inl rfl | exact Or.inr rfl))) (fun s1 H1 C1 cl1 fp1 => t_yes) (fun s1 H1 C1 cl1 fp1 => (e_call ((g).blk s1 H1 _ _ _) (h_is_pair F base (FxLe.refl F)) l_is_pair rfl (a_cons (e_ix false (ev 0) e_int) (a_cons (ev 1) a_nil))))))))))) (ss_one (s_ret e_bl)) ss_nil)
    (ss_one (s_ret (e_and (e_call g (h_is_rising F base (FxLe.refl F)) l_is_rising rfl (a_cons (e_ix false (ev 0) e_int) a_nil)) (e_one (e_call g (h_follows F base (FxLe.refl F)) l_follows rfl (a_cons (e_ix false (ev 0) e_int) a_nil))))))))

/-! is_lot -/
abbrev s_is_lot : Stmt := top 23
abbrev N_is_lot : List Str := ["many", "value", "one"]
theorem sc_is_lot : FnScope N_is_lot ["many", "value"] (defScope s_is_lot) := ⟨rfl, rfl, rfl, by decide +kernel, rfl, by decide +kernel, by decide +kernel⟩
theorem b_is_lot {k : Nat} (c_is_whole : C2) (c_is_rising : C2) {j_is_whole : Nat} (h_is_whole : FnA P w F "is_whole" j_is_whole 3 c_is_whole) {j_is_rising : Nat} (h_is_rising : FnA P w F "is_rising" j_is_rising 1 c_is_rising) (l_is_whole : j_is_whole ≤ k) (l_is_rising : j_is_rising ≤ k) (bn : ∀ x, x ∈ (["all", "isinstance", "tuple"] : List Str) → F.mg x = none) (f : Addr) (cdv : Value) (A : Around) (outer : List Env) (s : Shared) (H : Hp) (E : XK)
    (g : Gd F (cxOf (L2N.CX P w) P w F.K F.mg base N_is_lot "is_lot" (defScope s_is_lot) f cdv A outer s H E) (fun cls d _ H => E cls d H) k) :
    PSs (cxOf (L2N.CX P w) P w F.K F.mg base N_is_lot "is_lot" (defScope s_is_lot) f cdv A outer s H E) (defBody s_is_lot) (tS F (fun cls d _ H => E cls d H) (m_is_lot c_is_whole c_is_rising)) :=
  (ss_one (s_ret (e_and (e_isi (T := "tuple") false rfl (bn "isinstance" (by decide +kernel)) (ev 1) rfl (bn "tuple" (by decide +kernel)) PyProof.Rows.boot_tuple) (e_and (e_callB false (all_ok g.cx) rfl (bn "all" (by decide +kernel)) PyProof.Rows.boot_all (e_lc (own := [("one", 2)]) g.cx (by decide) (i_seq (ev 1)) (blkOk_by (by with_unfolding_all rfl)) (fun s1 H1 C1 cl1 fp1 => (g_name (i := 2) ((g).cx.blk s1 H1 _ _ _).nd rfl (by first | exact Or.inl rfl | exact Or.inr rfl))) (fun s1 H1 C1 cl1 fp1 => t_yes) (fun s1 H1 C1 cl1 fp1 => (e_call ((g).blk s1 H1 _ _ _) (h_is_whole F base (FxLe.refl F)) l_is_whole rfl (a_cons (ev 2) (a_cons e_int (a_cons (e_bin ((g).cx.blk s1 H1 _ _ _) .sub false false (ev 0) e_int) a_nil))))))) (e_one (e_call g (h_is_rising F base (FxLe.refl F)) l_is_rising rfl (a_cons (ev 1) a_nil)))))))

/-! need_order -/
abbrev s_need_order : Stmt := top 24
abbrev N_need_order : List Str := ["order"]
theorem sc_need_order : FnScope N_need_order ["order"] (defScope s_need_order) := ⟨rfl, rfl, rfl, by decide +kernel, rfl, by decide +kernel, by decide +kernel⟩
theorem b_need_order {k : Nat} (c_is_good : C2) {j_is_good : Nat} (h_is_good : FnA P w F "is_good" j_is_good 1 c_is_good) (l_is_good : j_is_good ≤ k) (x_InvalidOrder : ∀ X : Cx, X.K = F.K → X.mg = F.mg → ExcC F X "InvalidOrder") (f : Addr) (cdv : Value) (A : Around) (outer : List Env) (s : Shared) (H : Hp) (E : XK)
    (g : Gd F (cxOf (L2N.CX P w) P w F.K F.mg base N_need_order "need_order" (defScope s_need_order) f cdv A outer s H E) (fun cls d _ H => E cls d H) k) :
    PSs (cxOf (L2N.CX P w) P w F.K F.mg base N_need_order "need_order" (defScope s_need_order) f cdv A outer s H E) (defBody s_need_order) (tS F (fun cls d _ H => E cls d H) (m_need_order c_is_good)) :=
  (ss_one (s_if (t_not (t_val (e_call g (h_is_good F base (FxLe.refl F)) l_is_good rfl (a_cons (ev 0) a_nil)))) (ss_one (s_raise g.cx g.tk (x_InvalidOrder _ rfl rfl) rfl)) ss_nil))

/-! need_lot -/
abbrev s_need_lot : Stmt := top 25
abbrev N_need_lot : List Str := ["order", "lot"]
theorem sc_need_lot : FnScope N_need_lot ["order", "lot"] (defScope s_need_lot) := ⟨rfl, rfl, rfl, by decide +kernel, rfl, by decide +kernel, by decide +kernel⟩
theorem b_need_lot {k : Nat} (c_is_lot : C2) {j_is_lot : Nat} (h_is_lot : FnA P w F "is_lot" j_is_lot 2 c_is_lot) (l_is_lot : j_is_lot ≤ k) (x_InvalidLot : ∀ X : Cx, X.K = F.K → X.mg = F.mg → ExcC F X "InvalidLot") (f : Addr) (cdv : Value) (A : Around) (outer : List Env) (s : Shared) (H : Hp) (E : XK)
    (g : Gd F (cxOf (L2N.CX P w) P w F.K F.mg base N_need_lot "need_lot" (defScope s_need_lot) f cdv A outer s H E) (fun cls d _ H => E cls d H) k) :
    PSs (cxOf (L2N.CX P w) P w F.K F.mg base N_need_lot "need_lot" (defScope s_need_lot) f cdv A outer s H E) (defBody s_need_lot) (tS F (fun cls d _ H => E cls d H) (m_need_lot c_is_lot)) :=
  (ss_one (s_if (t_not (t_val (e_call g (h_is_lot F base (FxLe.refl F)) l_is_lot rfl (a_cons (e_ix false (ev 0) e_int) (a_cons (ev 1) a_nil))))) (ss_one (s_raise g.cx g.tk (x_InvalidLot _ rfl rfl) rfl)) ss_nil))

/-! turned_of -/
abbrev s_turned_of : Stmt := top 27
abbrev N_turned_of : List Str := ["order", "one", "other"]
theorem sc_turned_of : FnScope N_turned_of ["order"] (defScope s_turned_of) := ⟨rfl, rfl, rfl, by decide +kernel, rfl, by decide +kernel, by decide +kernel⟩
theorem b_turned_of {k : Nat} (bn : ∀ x, x ∈ (["sorted", "tuple"] : List Str) → F.mg x = none) (f : Addr) (cdv : Value) (A : Around) (outer : List Env) (s : Shared) (H : Hp) (E : XK)
    (g : Gd F (cxOf (L2N.CX P w) P w F.K F.mg base N_turned_of "turned_of" (defScope s_turned_of) f cdv A outer s H E) (fun cls d _ H => E cls d H) k) :
    PSs (cxOf (L2N.CX P w) P w F.K F.mg base N_turned_of "turned_of" (defScope s_turned_of) f cdv A outer s H E) (defBody s_turned_of) (tS F (fun cls d _ H => E cls d H) (m_turned_of)) :=
  (ss_one (s_ret (e_tup (a_cons (e_ix false (ev 0) e_int) (a_cons (e_callTy false (tuple_ok g.cx) rfl (bn "tuple" (by decide +kernel)) PyProof.Rows.boot_tuple (e_callB false (sorted_ok g.cx) rfl (bn "sorted" (by decide +kernel)) PyProof.Rows.boot_sorted (e_lc (own := [("one", 1), ("other", 2)]) g.cx (by decide) (i_seq (e_ix false (ev 0) e_int)) (blkOk_by (by with_unfolding_all rfl)) (fun s1 H1 C1 cl1 fp1 => (g_tup (is := [1, 2]) ((g).cx.blk s1 H1 _ _ _).calm (gs_cons (i := 1) ((g).cx.blk s1 H1 _ _ _).nd rfl (by first | exact Or.inl rfl | exact Or.inr rfl) (gs_cons (i := 2) ((g).cx.blk s1 H1 _ _ _).nd rfl (by first | exact Or.inl rfl | exact Or.inr rfl) gs_nil)))) (fun s1 H1 C1 cl1 fp1 => t_yes) (fun s1 H1 C1 cl1 fp1 => (e_tup (a_cons (ev 2) (a_cons (ev 1) a_nil))))))) a_nil)))))

/-! both -/
abbrev s_both : Stmt := top 28
abbrev N_both : List Str := ["one", "other", "over", "many", "pairs", "here", "there"]
theorem sc_both : FnScope N_both ["one", "other", "over"] (defScope s_both) := ⟨rfl, rfl, rfl, by decide +kernel, rfl, by decide +kernel, by decide +kernel⟩
theorem b_both {k : Nat} (gc_MOST_THINGS : GlC F "MOST_THINGS" (.int 6)) {CT fT : Addr} (xT : TmTxt P F.K F.mg CT fT) (bn : ∀ x, x ∈ (["list", "range", "sorted", "tuple"] : List Str) → F.mg x = none) (f : Addr) (cdv : Value) (A : Around) (outer : List Env) (s : Shared) (H : Hp) (E : XK)
    (g : Gd F (cxOf (L2N.CX P w) P w F.K F.mg base N_both "both" (defScope s_both) f cdv A outer s H E) (fun cls d _ H => E cls d H) k) :
    PSs (cxOf (L2N.CX P w) P w F.K F.mg base N_both "both" (defScope s_both) f cdv A outer s H E) (defBody s_both) (tS F (fun cls d _ H => E cls d H) (m_both)) :=
  (ss_cons (s_set (i := 3) g.cx rfl (by first | exact Or.inl rfl | exact Or.inr rfl) (e_ix false (ev 0) e_int))
    (ss_cons (s_if (t_cmp g.cx .gt false false (e_bin g.cx .add false false (ev 3) (e_ix false (ev 1) e_int)) (gc_MOST_THINGS.e rfl)) (ss_one (s_raiseI g.cx g.tk g.rm xT rfl (gc_MOST_THINGS.e rfl))) ss_nil)
    (ss_cons (s_set (i := 4) g.cx rfl (by first | exact Or.inl rfl | exact Or.inr rfl) (e_bin g.cx .add false false (e_callTy false (list_ok g.cx) rfl (bn "list" (by decide +kernel)) PyProof.Rows.boot_list (e_ix false (ev 0) e_int)) (e_lc (own := [("here", 5), ("there", 6)]) g.cx (by decide) (i_seq (e_ix false (ev 1) e_int)) (blkOk_by (by with_unfolding_all rfl)) (fun s1 H1 C1 cl1 fp1 => (g_tup (is := [5, 6]) ((g).cx.blk s1 H1 _ _ _).calm (gs_cons (i := 5) ((g).cx.blk s1 H1 _ _ _).nd rfl (by first | exact Or.inl rfl | exact Or.inr rfl) (gs_cons (i := 6) ((g).cx.blk s1 H1 _ _ _).nd rfl (by first | exact Or.inl rfl | exact Or.inr rfl) gs_nil)))) (fun s1 H1 C1 cl1 fp1 => t_yes) (fun s1 H1 C1 cl1 fp1 => (e_tup (a_cons (e_bin ((g).cx.blk s1 H1 _ _ _) .add false false (ev 5) (ev 3)) (a_cons (e_bin ((g).cx.blk s1 H1 _ _ _) .add false false (ev 6) (ev 3)) a_nil)))))))
    (ss_cons (s_if (t_val (ev 2)) (ss_one (s_set (i := 4) g.cx rfl (by first | exact Or.inl rfl | exact Or.inr rfl) (e_bin g.cx .add false false (ev 4) (e_lc2 (own := [("here", 5), ("there", 6)]) (vs1 := [6]) g.cx (by decide) (by decide) (i_range1 rfl (bn "range" (by decide +kernel)) (a_cons (ev 3) a_nil)) (blkOk_by (by with_unfolding_all rfl)) (by decide) (fun s1 H1 C1 cl1 fp1 => (g_name (i := 5) ((g).cx.blk s1 H1 _ _ _).nd rfl (by first | exact Or.inl rfl | exact Or.inr rfl))) (fun s1 H1 C1 cl1 fp1 => (i_range1 rfl (bn "range" (by decide +kernel)) (a_cons (e_ix false (ev 1) e_int) a_nil))) (fun s1 H1 C1 cl1 fp1 => (g_name (i := 6) ((g).cx.blk s1 H1 _ _ _).nd rfl (by first | exact Or.inl rfl | exact Or.inr rfl))) (fun s1 H1 C1 cl1 fp1 => t_yes) (fun s1 H1 C1 cl1 fp1 => (e_tup (a_cons (ev 5) (a_cons (e_bin ((g).cx.blk s1 H1 _ _ _) .add false false (ev 6) (ev 3)) a_nil)))))))) ss_nil)
    (ss_one (s_ret (e_tup (a_cons (e_bin g.cx .add false false (ev 3) (e_ix false (ev 1) e_int)) (a_cons (e_callTy false (tuple_ok g.cx) rfl (bn "tuple" (by decide +kernel)) PyProof.Rows.boot_tuple (e_callB false (sorted_ok g.cx) rfl (bn "sorted" (by decide +kernel)) PyProof.Rows.boot_sorted (ev 4))) a_nil)))))))))

/-! part_of -/
abbrev s_part_of : Stmt := top 29
abbrev N_part_of : List Str := ["order", "lot", "pairs", "one", "other"]
theorem sc_part_of : FnScope N_part_of ["order", "lot"] (defScope s_part_of) := ⟨rfl, rfl, rfl, by decide +kernel, rfl, by decide +kernel, by decide +kernel⟩
theorem b_part_of {k : Nat} (bn : ∀ x, x ∈ (["len", "sorted", "tuple"] : List Str) → F.mg x = none) (f : Addr) (cdv : Value) (A : Around) (outer : List Env) (s : Shared) (H : Hp) (E : XK)
    (g : Gd F (cxOf (L2N.CX P w) P w F.K F.mg base N_part_of "part_of" (defScope s_part_of) f cdv A outer s H E) (fun cls d _ H => E cls d H) k) :
    PSs (cxOf (L2N.CX P w) P w F.K F.mg base N_part_of "part_of" (defScope s_part_of) f cdv A outer s H E) (defBody s_part_of) (tS F (fun cls d _ H => E cls d H) (m_part_of)) :=
  (ss_cons (s_setLc (own := [("one", 3), ("other", 4)]) (i := 2) g.cx (by decide) rfl rfl rfl (i_seq (e_ix false (ev 0) e_int)) (blkOk_by (by with_unfolding_all rfl)) (fun s1 H1 C1 cl1 fp1 => (g_tup (is := [3, 4]) ((g).cx.blk s1 H1 _ _ _).calm (gs_cons (i := 3) ((g).cx.blk s1 H1 _ _ _).nd rfl (by first | exact Or.inl rfl | exact Or.inr rfl) (gs_cons (i := 4) ((g).cx.blk s1 H1 _ _ _).nd rfl (by first | exact Or.inl rfl | exact Or.inr rfl) gs_nil)))) (fun s1 H1 C1 cl1 fp1 => (pts_one (t_w (w_and (t_cmp ((g).cx.blk s1 H1 _ _ _) .inn false false (ev 3) (ev 1)) (w_and1 (t_cmp ((g).cx.blk s1 H1 _ _ _) .inn false false (ev 4) (ev 1))))))) (fun s1 H1 C1 cl1 fp1 => (e_tup (a_cons (e_index ((g).cx.blk s1 H1 _ _ _) (ev 1) (ev 3)) (a_cons (e_index ((g).cx.blk s1 H1 _ _ _) (ev 1) (ev 4)) a_nil)))))
    (ss_one (s_ret (e_tup (a_cons (e_callB false (len_ok g.cx) rfl (bn "len" (by decide +kernel)) PySem.boot_len (ev 1)) (a_cons (e_callTy false (tuple_ok g.cx) rfl (bn "tuple" (by decide +kernel)) PyProof.Rows.boot_tuple (e_callB false (sorted_ok g.cx) rfl (bn "sorted" (by decide +kernel)) PyProof.Rows.boot_sorted (ev 2))) a_nil))))))

/-! turned -/
abbrev s_turned : Stmt := top 30
abbrev N_turned : List Str := ["order"]
theorem sc_turned : FnScope N_turned ["order"] (defScope s_turned) := ⟨rfl, rfl, rfl, by decide +kernel, rfl, by decide +kernel, by decide +kernel⟩
theorem b_turned {k : Nat} (c_need_order : C2) (c_turned_of : C2) {j_need_order : Nat} (h_need_order : FnA P w F "need_order" j_need_order 1 c_need_order) {j_turned_of : Nat} (h_turned_of : FnA P w F "turned_of" j_turned_of 1 c_turned_of) (l_need_order : j_need_order ≤ k) (l_turned_of : j_turned_of ≤ k) (f : Addr) (cdv : Value) (A : Around) (outer : List Env) (s : Shared) (H : Hp) (E : XK)
    (g : Gd F (cxOf (L2N.CX P w) P w F.K F.mg base N_turned "turned" (defScope s_turned) f cdv A outer s H E) (fun cls d _ H => E cls d H) k) :
    PSs (cxOf (L2N.CX P w) P w F.K F.mg base N_turned "turned" (defScope s_turned) f cdv A outer s H E) (defBody s_turned) (tS F (fun cls d _ H => E cls d H) (m_turned c_need_order c_turned_of)) :=
  (ss_cons (s_expr (e_call g (h_need_order F base (FxLe.refl F)) l_need_order rfl (a_cons (ev 0) a_nil)))
    (ss_one (s_ret (e_call g (h_turned_of F base (FxLe.refl F)) l_turned_of rfl (a_cons (ev 0) a_nil)))))

/-! stacked -/
abbrev s_stacked : Stmt := top 31
abbrev N_stacked : List Str := ["one", "other"]
theorem sc_stacked : FnScope N_stacked ["one", "other"] (defScope s_stacked) := ⟨rfl, rfl, rfl, by decide +kernel, rfl, by decide +kernel, by decide +kernel⟩
theorem b_stacked {k : Nat} (c_need_order : C2) (c_both : C2) {j_need_order : Nat} (h_need_order : FnA P w F "need_order" j_need_order 1 c_need_order) {j_both : Nat} (h_both : FnA P w F "both" j_both 3 c_both) (l_need_order : j_need_order ≤ k) (l_both : j_both ≤ k) (f : Addr) (cdv : Value) (A : Around) (outer : List Env) (s : Shared) (H : Hp) (E : XK)
    (g : Gd F (cxOf (L2N.CX P w) P w F.K F.mg base N_stacked "stacked" (defScope s_stacked) f cdv A outer s H E) (fun cls d _ H => E cls d H) k) :
    PSs (cxOf (L2N.CX P w) P w F.K F.mg base N_stacked "stacked" (defScope s_stacked) f cdv A outer s H E) (defBody s_stacked) (tS F (fun cls d _ H => E cls d H) (m_stacked c_need_order c_both)) :=
  (ss_cons (s_expr (e_call g (h_need_order F base (FxLe.refl F)) l_need_order rfl (a_cons (ev 0) a_nil)))
    (ss_cons (s_expr (e_call g (h_need_order F base (FxLe.refl F)) l_need_order rfl (a_cons (ev 1) a_nil)))
    (ss_one (s_ret (e_call g (h_both F base (FxLe.refl F)) l_both rfl (a_cons (ev 0) (a_cons (ev 1) (a_cons e_bl a_nil))))))))

/-! beside -/
abbrev s_beside : Stmt := top 32
abbrev N_beside : List Str := ["one", "other"]
theorem sc_beside : FnScope N_beside ["one", "other"] (defScope s_beside) := ⟨rfl, rfl, rfl, by decide +kernel, rfl, by decide +kernel, by decide +kernel⟩
theorem b_beside {k : Nat} (c_need_order : C2) (c_both : C2) {j_need_order : Nat} (h_need_order : FnA P w F "need_order" j_need_order 1 c_need_order) {j_both : Nat} (h_both : FnA P w F "both" j_both 3 c_both) (l_need_order : j_need_order ≤ k) (l_both : j_both ≤ k) (f : Addr) (cdv : Value) (A : Around) (outer : List Env) (s : Shared) (H : Hp) (E : XK)
    (g : Gd F (cxOf (L2N.CX P w) P w F.K F.mg base N_beside "beside" (defScope s_beside) f cdv A outer s H E) (fun cls d _ H => E cls d H) k) :
    PSs (cxOf (L2N.CX P w) P w F.K F.mg base N_beside "beside" (defScope s_beside) f cdv A outer s H E) (defBody s_beside) (tS F (fun cls d _ H => E cls d H) (m_beside c_need_order c_both)) :=
  (ss_cons (s_expr (e_call g (h_need_order F base (FxLe.refl F)) l_need_order rfl (a_cons (ev 0) a_nil)))
    (ss_cons (s_expr (e_call g (h_need_order F base (FxLe.refl F)) l_need_order rfl (a_cons (ev 1) a_nil)))
    (ss_one (s_ret (e_call g (h_both F base (FxLe.refl F)) l_both rfl (a_cons (ev 0) (a_cons (ev 1) (a_cons e_bl a_nil))))))))

/-! part -/
abbrev s_part : Stmt := top 33
abbrev N_part : List Str := ["order", "lot"]
theorem sc_part : FnScope N_part ["order", "lot"] (defScope s_part) := ⟨rfl, rfl, rfl, by decide +kernel, rfl, by decide +kernel, by decide +kernel⟩
theorem b_part {k : Nat} (c_need_order : C2) (c_need_lot : C2) (c_part_of : C2) {j_need_order : Nat} (h_need_order : FnA P w F "need_order" j_need_order 1 c_need_order) {j_need_lot : Nat} (h_need_lot : FnA P w F "need_lot" j_need_lot 2 c_need_lot) {j_part_of : Nat} (h_part_of : FnA P w F "part_of" j_part_of 2 c_part_of) (l_need_order : j_need_order ≤ k) (l_need_lot : j_need_lot ≤ k) (l_part_of : j_part_of ≤ k) (x_InvalidLot : ∀ X : Cx, X.K = F.K → X.mg = F.mg → ExcC F X "InvalidLot") (f : Addr) (cdv : Value) (A : Around) (outer : List Env) (s : Shared) (H : Hp) (E : XK)
    (g : Gd F (cxOf (L2N.CX P w) P w F.K F.mg base N_part "part" (defScope s_part) f cdv A outer s H E) (fun cls d _ H => E cls d H) k) :
    PSs (cxOf (L2N.CX P w) P w F.K F.mg base N_part "part" (defScope s_part) f cdv A outer s H E) (defBody s_part) (tS F (fun cls d _ H => E cls d H) (m_part c_need_order c_need_lot c_part_of)) :=
  (ss_cons (s_expr (e_call g (h_need_order F base (FxLe.refl F)) l_need_order rfl (a_cons (ev 0) a_nil)))
    (ss_cons (s_expr (e_call g (h_need_lot F base (FxLe.refl F)) l_need_lot rfl (a_cons (ev 0) (a_cons (ev 1) a_nil))))
    (ss_cons (s_if (t_cmp g.cx .eq false false (ev 1) (e_tup a_nil)) (ss_one (s_raise g.cx g.tk (x_InvalidLot _ rfl rfl) rfl)) ss_nil)
    (ss_one (s_ret (e_call g (h_part_of F base (FxLe.refl F)) l_part_of rfl (a_cons (ev 0) (a_cons (ev 1) a_nil))))))))

/-! _law_vat -/
abbrev s__law_vat : Stmt := top 35
abbrev N__law_vat : List Str := ["script", "k", "cell"]
theorem sc__law_vat : FnScope N__law_vat ["script", "k"] (defScope s__law_vat) := ⟨rfl, rfl, rfl, by decide +kernel, rfl, by decide +kernel, by decide +kernel⟩
theorem b__law_vat {k : Nat} (F : Fx) (bn : ∀ x, x ∈ (["abs", "int", "len"] : List Str) → F.mg x = none) (f : Addr) (cdv : Value) (A : Around) (outer : List Env) (s : Shared) (H : Hp) (E : XK)
    (g : Gd F (cxOf (L2N.CX P w) P w F.K F.mg base N__law_vat "_law_vat" (defScope s__law_vat) f cdv A outer s H E) (fun cls d _ H => E cls d H) k) :
    PSs (cxOf (L2N.CX P w) P w F.K F.mg base N__law_vat "_law_vat" (defScope s__law_vat) f cdv A outer s H E) (defBody s__law_vat) (tS F (fun cls d _ H => E cls d H) (m__law_vat F)) :=
  (ss_cons (s_set (i := 2) g.cx rfl (by first | exact Or.inl rfl | exact Or.inr rfl) (e_bin g.cx .add false false (e_bin g.cx .mul false false e_int (ev 1)) e_int))
    (ss_cons (s_if (t_cmp g.cx .lt false false (ev 1) (e_lenS g.cx rfl (bn "len" (by decide +kernel)) rfl)) (ss_one (s_set (i := 2) g.cx rfl (by first | exact Or.inl rfl | exact Or.inr rfl) (e_callB false (abs_ok g.cx) rfl (bn "abs" (by decide +kernel)) PyProof.Rows.boot_abs (e_callTy false (int_ok g.cx) rfl (bn "int" (by decide +kernel)) PyProof.Rows.boot_int (e_ixS g.cx rfl (ev 1)))))) ss_nil)
    (ss_one (s_ret (e_lstc (a_cons (e_if (t_cmp g.cx .ge false false (ev 2) (e_bin g.cx .pow false false e_int e_int)) (ev 2) e_int) (a_cons (e_bin g.cx .add false false (e_bin g.cx .mod false false (e_callTy false (int_ok g.cx) rfl (bn "int" (by decide +kernel)) PyProof.Rows.boot_int (e_bin g.cx .add false false (e_bin g.cx .add false false (e_bin g.cx .mul false false (ev 2) e_int) (e_bin g.cx .mul false false e_int (ev 1))) e_int)) e_int) e_int) a_nil)))))))

/-! _law_under -/
abbrev s__law_under : Stmt := top 36
abbrev N__law_under : List Str := ["vat", "many", "wide", "found"]
theorem sc__law_under : FnScope N__law_under ["vat", "many"] (defScope s__law_under) := ⟨rfl, rfl, rfl, by decide +kernel, rfl, by decide +kernel, by decide +kernel⟩
theorem b__law_under {k : Nat} (bn : ∀ x, x ∈ (["int"] : List Str) → F.mg x = none) (f : Addr) (cdv : Value) (A : Around) (outer : List Env) (s : Shared) (H : Hp) (E : XK)
    (g : Gd F (cxOf (L2N.CX P w) P w F.K F.mg base N__law_under "_law_under" (defScope s__law_under) f cdv A outer s H E) (fun cls d _ H => E cls d H) k) :
    PSs (cxOf (L2N.CX P w) P w F.K F.mg base N__law_under "_law_under" (defScope s__law_under) f cdv A outer s H E) (defBody s__law_under) (tS F (fun cls d _ H => E cls d H) (m__law_under)) :=
  (ss_cons (s_if (t_cmp g.cx .gt false false (e_ix true (ev 0) e_int) e_int) (ss_cons (s_set (i := 3) g.cx rfl (by first | exact Or.inl rfl | exact Or.inr rfl) (e_bin g.cx .mod false false (e_callTy false (int_ok g.cx) rfl (bn "int" (by decide +kernel)) PyProof.Rows.boot_int (e_ix true (ev 0) e_int)) (ev 1)))
    (ss_cons (s_setIx (e_bin g.cx .fdiv false false (e_ix true (ev 0) e_int) (ev 1)) (ev 0) e_int)
    (ss_one (s_ret (ev 3))))) ss_nil)
    (ss_cons (s_setIx (e_bin g.cx .mod false false (e_callTy false (int_ok g.cx) rfl (bn "int" (by decide +kernel)) PyProof.Rows.boot_int (e_bin g.cx .add false false (e_bin g.cx .mul false false (e_ix true (ev 0) e_int) e_int) e_int)) e_int) (ev 0) e_int)
    (ss_cons (s_set (i := 2) g.cx rfl (by first | exact Or.inl rfl | exact Or.inr rfl) (e_bin g.cx .mod false false (e_callTy false (int_ok g.cx) rfl (bn "int" (by decide +kernel)) PyProof.Rows.boot_int (e_bin g.cx .mul false false (e_ix true (ev 0) e_int) (e_bin g.cx .add false false (e_bin g.cx .fdiv false false (e_ix true (ev 0) e_int) e_int) e_int))) e_int))
    (ss_one (s_ret (e_bin g.cx .mod false false (e_callTy false (int_ok g.cx) rfl (bn "int" (by decide +kernel)) PyProof.Rows.boot_int (e_bin g.cx .fdiv false false (ev 2) e_int)) (ev 1)))))))

/-! _law_closed -/
abbrev s__law_closed : Stmt := top 37
abbrev N__law_closed : List Str := ["pairs", "found", "before", "one", "other", "first", "more"]
theorem sc__law_closed : FnScope N__law_closed ["pairs"] (defScope s__law_closed) := ⟨rfl, rfl, rfl, by decide +kernel, rfl, by decide +kernel, by decide +kernel⟩
theorem b__law_closed {k : Nat} (bn : ∀ x, x ∈ (["set", "sorted", "tuple"] : List Str) → F.mg x = none) (f : Addr) (cdv : Value) (A : Around) (outer : List Env) (s : Shared) (H : Hp) (E : XK)
    (g : Gd F (cxOf (L2N.CX P w) P w F.K F.mg base N__law_closed "_law_closed" (defScope s__law_closed) f cdv A outer s H E) (fun cls d _ H => E cls d H) k) :
    PSs (cxOf (L2N.CX P w) P w F.K F.mg base N__law_closed "_law_closed" (defScope s__law_closed) f cdv A outer s H E) (defBody s__law_closed) (tS F (fun cls d _ H => E cls d H) (m__law_closed)) :=
  (ss_cons (s_set (i := 1) g.cx rfl (by first | exact Or.inl rfl | exact Or.inr rfl) (e_sset g.cx false rfl (bn "sorted" (by decide +kernel)) PyProof.Rows.boot_sorted rfl (bn "set" (by decide +kernel)) PyProof.Rows.boot_set (ev 0)))
    (ss_cons (s_set (i := 2) g.cx rfl (by first | exact Or.inl rfl | exact Or.inr rfl) e_non)
    (ss_cons (s_while g.ps (t_cmp g.cx .ne false false (ev 1) (ev 2)) (ss_cons (s_set (i := 2) g.cx rfl (by first | exact Or.inl rfl | exact Or.inr rfl) (ev 1))
    (ss_cons (s_for g.cx g.ps (i_seq (ev 2)) (g_tup (is := [3, 4]) g.cx.calm (gs_cons (i := 3) g.cx.nd rfl (by first | exact Or.inl rfl | exact Or.inr rfl) (gs_cons (i := 4) g.cx.nd rfl (by first | exact Or.inl rfl | exact Or.inr rfl) gs_nil))) (ss_one (s_set (i := 1) g.cx rfl (by first | exact Or.inl rfl | exact Or.inr rfl) (e_bin g.cx .add false false (ev 1) (e_lc (own := [("first", 5), ("more", 6)]) g.cx (by decide) (i_seq (ev 2)) (blkOk_by (by with_unfolding_all rfl)) (fun s1 H1 C1 cl1 fp1 => (g_tup (is := [5, 6]) ((g).cx.blk s1 H1 _ _ _).calm (gs_cons (i := 5) ((g).cx.blk s1 H1 _ _ _).nd rfl (by first | exact Or.inl rfl | exact Or.inr rfl) (gs_cons (i := 6) ((g).cx.blk s1 H1 _ _ _).nd rfl (by first | exact Or.inl rfl | exact Or.inr rfl) gs_nil)))) (fun s1 H1 C1 cl1 fp1 => (pts_one (t_cmp ((g).cx.blk s1 H1 _ _ _) .eq false false (ev 5) (ev 4)))) (fun s1 H1 C1 cl1 fp1 => (e_tup (a_cons (ev 3) (a_cons (ev 6) a_nil)))))))))
    (ss_one (s_set (i := 1) g.cx rfl (by first | exact Or.inl rfl | exact Or.inr rfl) (e_sset g.cx false rfl (bn "sorted" (by decide +kernel)) PyProof.Rows.boot_sorted rfl (bn "set" (by decide +kernel)) PyProof.Rows.boot_set (ev 1)))))))
    (ss_one (s_ret (e_callTy false (tuple_ok g.cx) rfl (bn "tuple" (by decide +kernel)) PyProof.Rows.boot_tuple (ev 1)))))))

/-! _law_row -/
abbrev s__law_row : Stmt := top 38
abbrev N__law_row : List Str := ["vat", "many", "left", "found"]
theorem sc__law_row : FnScope N__law_row ["vat", "many"] (defScope s__law_row) := ⟨rfl, rfl, rfl, by decide +kernel, rfl, by decide +kernel, by decide +kernel⟩
theorem b__law_row {k : Nat} (c__law_under : C2) {j__law_under : Nat} (h__law_under : FnA P w F "_law_under" j__law_under 2 c__law_under) (l__law_under : j__law_under ≤ k) (bn : ∀ x, x ∈ (["len", "list", "range"] : List Str) → F.mg x = none) (f : Addr) (cdv : Value) (A : Around) (outer : List Env) (s : Shared) (H : Hp) (E : XK)
    (g : Gd F (cxOf (L2N.CX P w) P w F.K F.mg base N__law_row "_law_row" (defScope s__law_row) f cdv A outer s H E) (fun cls d _ H => E cls d H) k) :
    PSs (cxOf (L2N.CX P w) P w F.K F.mg base N__law_row "_law_row" (defScope s__law_row) f cdv A outer s H E) (defBody s__law_row) (tS F (fun cls d _ H => E cls d H) (m__law_row c__law_under)) :=
  (ss_cons (s_par (i := 2) (j := 3) g.cx rfl rfl (by decide) rfl rfl (a_cons (e_listRgC g.cx rfl (bn "range" (by decide +kernel)) rfl (bn "list" (by decide +kernel)) (ev 1)) (a_cons (e_tup a_nil) a_nil)) rfl)
    (ss_cons (s_while g.ps (t_cmp g.cx .ne true false (ev 2) (e_lst a_nil)) (ss_one (s_set (i := 3) g.cx rfl (by first | exact Or.inl rfl | exact Or.inr rfl) (e_bin g.cx .add false false (ev 3) (e_tup (a_cons (e_popAt (ev 2) (e_call g (h__law_under F base (FxLe.refl F)) l__law_under rfl (a_cons (ev 0) (a_cons (e_callB true (len_ok g.cx) rfl (bn "len" (by decide +kernel)) PySem.boot_len (ev 2)) a_nil)))) a_nil))))))
    (ss_one (s_ret (ev 3)))))

/-! _law_order -/
abbrev s__law_order : Stmt := top 39
abbrev N__law_order : List Str := ["vat", "most", "ends", "at", "many", "course", "row_so", "pairs", "later", "one", "thing", "other"]
theorem sc__law_order : FnScope N__law_order ["vat", "most"] (defScope s__law_order) := ⟨rfl, rfl, rfl, by decide +kernel, rfl, by decide +kernel, by decide +kernel⟩
theorem b__law_order {k : Nat} (c__law_under : C2) (c__law_row : C2) (c__law_closed : C2) {j__law_under : Nat} (h__law_under : FnA P w F "_law_under" j__law_under 2 c__law_under) {j__law_row : Nat} (h__law_row : FnA P w F "_law_row" j__law_row 2 c__law_row) {j__law_closed : Nat} (h__law_closed : FnA P w F "_law_closed" j__law_closed 1 c__law_closed) (l__law_under : j__law_under ≤ k) (l__law_row : j__law_row ≤ k) (l__law_closed : j__law_closed ≤ k) (bn : ∀ x, x ∈ (["range", "tuple"] : List Str) → F.mg x = none) (f : Addr) (cdv : Value) (A : Around) (outer : List Env) (s : Shared) (H : Hp) (E : XK)
    (g : Gd F (cxOf (L2N.CX P w) P w F.K F.mg base N__law_order "_law_order" (defScope s__law_order) f cdv A outer s H E) (fun cls d _ H => E cls d H) k) :
    PSs (cxOf (L2N.CX P w) P w F.K F.mg base N__law_order "_law_order" (defScope s__law_order) f cdv A outer s H E) (defBody s__law_order) (tS F (fun cls d _ H => E cls d H) (m__law_order c__law_under c__law_row c__law_closed)) :=
  (ss_cons (s_par (i := 4) (j := 5) g.cx rfl rfl (by decide) rfl rfl (a_cons (e_bin g.cx .add false false e_int (e_call g (h__law_under F base (FxLe.refl F)) l__law_under rfl (a_cons (ev 0) (a_cons (ev 1) a_nil)))) (a_cons (e_call g (h__law_under F base (FxLe.refl F)) l__law_under rfl (a_cons (ev 0) (a_cons e_int a_nil))) a_nil)) rfl)
    (ss_cons (s_par (i := 6) (j := 7) g.cx rfl rfl (by decide) rfl rfl (a_cons (e_call g (h__law_row F base (FxLe.refl F)) l__law_row rfl (a_cons (ev 0) (a_cons (ev 4) a_nil))) (a_cons (e_lstc a_nil) a_nil)) rfl)
    (ss_cons (s_set (i := 2) g.cx rfl (by first | exact Or.inl rfl | exact Or.inr rfl) (e_lc (own := [("thing", 10)]) g.cx (by decide) (i_range1 rfl (bn "range" (by decide +kernel)) (a_cons (ev 4) a_nil)) (blkOk_by (by with_unfolding_all rfl)) (fun s1 H1 C1 cl1 fp1 => (g_name (i := 10) ((g).cx.blk s1 H1 _ _ _).nd rfl (by first | exact Or.inl rfl | exact Or.inr rfl))) (fun s1 H1 C1 cl1 fp1 => t_yes) (fun s1 H1 C1 cl1 fp1 => (e_tup (a_cons (e_call ((g).blk s1 H1 _ _ _) (h__law_under F base (FxLe.refl F)) l__law_under rfl (a_cons (ev 0) (a_cons e_int a_nil))) (a_cons (e_bin ((g).cx.blk s1 H1 _ _ _) .add false false e_int (e_call ((g).blk s1 H1 _ _ _) (h__law_under F base (FxLe.refl F)) l__law_under rfl (a_cons (ev 0) (a_cons e_int a_nil)))) a_nil))))))
    (ss_cons (s_for g.cx g.ps (i_range1 rfl (bn "range" (by decide +kernel)) (a_cons (ev 4) a_nil)) (g_name (i := 3) g.cx.nd rfl (by first | exact Or.inl rfl | exact Or.inr rfl)) (ss_one (s_for g.cx g.ps (i_range2 rfl (bn "range" (by decide +kernel)) (a_cons (e_bin g.cx .add false false (ev 3) e_int) (a_cons (ev 4) a_nil))) (g_name (i := 8) g.cx.nd rfl (by first | exact Or.inl rfl | exact Or.inr rfl)) (ss_one (s_if (t_w (w_and (t_cmp g.cx .lt false false (ev 5) e_int) (w_and1 (t_cmp g.cx .eq false false (e_call g (h__law_under F base (FxLe.refl F)) l__law_under rfl (a_cons (ev 0) (a_cons (e_bin g.cx .add false false e_int (ev 5)) a_nil))) e_int)))) (ss_one (s_expr (e_append (ev 7) (e_tup (a_cons (e_ix false (ev 6) (ev 3)) (a_cons (e_ix false (ev 6) (ev 8)) a_nil)))))) ss_nil)))))
    (ss_freeze (ss_cons (s_if (t_cmp g.cx .eq false false (ev 5) e_int) (ss_one (s_for g.cx g.ps (i_range1 rfl (bn "range" (by decide +kernel)) (a_cons (ev 4) a_nil)) (g_name (i := 9) g.cx.nd rfl (by first | exact Or.inl rfl | exact Or.inr rfl)) (ss_one (s_set (i := 7) g.cx rfl (by first | exact Or.inl rfl | exact Or.inr rfl) (e_bin g.cx .add false false (ev 7) (e_lc (own := [("other", 11)]) g.cx (by decide) (i_range1 rfl (bn "range" (by decide +kernel)) (a_cons (ev 4) a_nil)) (blkOk_by (by with_unfolding_all rfl)) (fun s1 H1 C1 cl1 fp1 => (g_name (i := 11) ((g).cx.blk s1 H1 _ _ _).nd rfl (by first | exact Or.inl rfl | exact Or.inr rfl))) (fun s1 H1 C1 cl1 fp1 => (pts_one (t_cmp ((g).cx.blk s1 H1 _ _ _) .le false false (e_bin ((g).cx.blk s1 H1 _ _ _) .add false false (e_ix false (e_ix false (ev 2) (ev 9)) e_int) (e_ix false (e_ix false (ev 2) (ev 9)) e_int)) (e_ix false (e_ix false (ev 2) (ev 11)) e_int)))) (fun s1 H1 C1 cl1 fp1 => (e_tup (a_cons (ev 9) (a_cons (ev 11) a_nil)))))))))) ss_nil)
    (ss_one (s_ret (e_tup (a_cons (ev 4) (a_cons (e_call g (h__law_closed F base (FxLe.refl F)) l__law_closed rfl (a_cons (e_callTy false (tuple_ok g.cx) rfl (bn "tuple" (by decide +kernel)) PyProof.Rows.boot_tuple (ev 7)) a_nil)) a_nil)))))))))))

/-! _law_names -/
abbrev s__law_names : Stmt := top 40
abbrev N__law_names : List Str := ["e", "some", "labels", "word", "good"]
theorem sc__law_names : FnScope N__law_names ["e"] (defScope s__law_names) := ⟨rfl, rfl, rfl, by decide +kernel, rfl, by decide +kernel, by decide +kernel⟩
theorem b__law_names {a D : Addr} {d : Option Addr} {oe : Obj} {bits : List Bool} {g_InvalidOrder : Addr} (m_InvalidOrder : F.mg "InvalidOrder" = some (.ref g_InvalidOrder)) (t_InvalidOrder : PySem.W.kitOne F.K (.ref D) (.ref g_InvalidOrder) = some (bits.getD 0 false)) {g_InvalidRow : Addr} (m_InvalidRow : F.mg "InvalidRow" = some (.ref g_InvalidRow)) (t_InvalidRow : PySem.W.kitOne F.K (.ref D) (.ref g_InvalidRow) = some (bits.getD 1 false)) {g_InvalidLot : Addr} (m_InvalidLot : F.mg "InvalidLot" = some (.ref g_InvalidLot)) (t_InvalidLot : PySem.W.kitOne F.K (.ref D) (.ref g_InvalidLot) = some (bits.getD 2 false)) {g_InvalidThing : Addr} (m_InvalidThing : F.mg "InvalidThing" = some (.ref g_InvalidThing)) (t_InvalidThing : PySem.W.kitOne F.K (.ref D) (.ref g_InvalidThing) = some (bits.getD 3 false)) {g_InvalidNumber : Addr} (m_InvalidNumber : F.mg "InvalidNumber" = some (.ref g_InvalidNumber)) (t_InvalidNumber : PySem.W.kitOne F.K (.ref D) (.ref g_InvalidNumber) = some (bits.getD 4 false)) {g_InvalidPair : Addr} (m_InvalidPair : F.mg "InvalidPair" = some (.ref g_InvalidPair)) (t_InvalidPair : PySem.W.kitOne F.K (.ref D) (.ref g_InvalidPair) = some (bits.getD 5 false)) {g_InvalidPairs : Addr} (m_InvalidPairs : F.mg "InvalidPairs" = some (.ref g_InvalidPairs)) (t_InvalidPairs : PySem.W.kitOne F.K (.ref D) (.ref g_InvalidPairs) = some (bits.getD 6 false)) {g_InvalidFacts : Addr} (m_InvalidFacts : F.mg "InvalidFacts" = some (.ref g_InvalidFacts)) (t_InvalidFacts : PySem.W.kitOne F.K (.ref D) (.ref g_InvalidFacts) = some (bits.getD 7 false)) {g_InvalidPlace : Addr} (m_InvalidPlace : F.mg "InvalidPlace" = some (.ref g_InvalidPlace)) (t_InvalidPlace : PySem.W.kitOne F.K (.ref D) (.ref g_InvalidPlace) = some (bits.getD 8 false)) {g_InvalidText : Addr} (m_InvalidText : F.mg "InvalidText" = some (.ref g_InvalidText)) (t_InvalidText : PySem.W.kitOne F.K (.ref D) (.ref g_InvalidText) = some (bits.getD 9 false)) {g_Contrary : Addr} (m_Contrary : F.mg "Contrary" = some (.ref g_Contrary)) (t_Contrary : PySem.W.kitOne F.K (.ref D) (.ref g_Contrary) = some (bits.getD 10 false)) {g_Unlike : Addr} (m_Unlike : F.mg "Unlike" = some (.ref g_Unlike)) (t_Unlike : PySem.W.kitOne F.K (.ref D) (.ref g_Unlike) = some (bits.getD 11 false)) {g_NothingToUndo : Addr} (m_NothingToUndo : F.mg "NothingToUndo" = some (.ref g_NothingToUndo)) (t_NothingToUndo : PySem.W.kitOne F.K (.ref D) (.ref g_NothingToUndo) = some (bits.getD 12 false)) {g_TooMany : Addr} (m_TooMany : F.mg "TooMany" = some (.ref g_TooMany)) (t_TooMany : PySem.W.kitOne F.K (.ref D) (.ref g_TooMany) = some (bits.getD 13 false)) (boot_ValueError : bootBuiltins "ValueError" = some (.type "ValueError")) (t_ValueError : PySem.W.kitOne F.K (.ref D) (.type "ValueError") = some (bits.getD 14 false)) (bn : ∀ x, x ∈ (["isinstance", "zip", "ValueError"] : List Str) → F.mg x = none) (f : Addr) (cdv : Value) (A : Around) (outer : List Env) (s : Shared) (H : Hp) (E : XK)
    (ho : HotOk F (L2H.cxH (L2N.CX P w) P w F.K F.mg base N__law_names "_law_names" (defScope s__law_names) f cdv A outer s H E (a, oe)) D a d oe) :
    PSs (L2H.cxH (L2N.CX P w) P w F.K F.mg base N__law_names "_law_names" (defScope s__law_names) f cdv A outer s H E (a, oe)) (defBody s__law_names) (tS F W0 (m__law_names a bits)) :=
  ss_cons (s_setN (i := 1) ho.nd rfl (by first | exact Or.inl rfl | exact Or.inr rfl) (e_lst (a_cons (e_isX ho.er rfl (bn "isinstance" (by decide +kernel)) rfl (pe_glob (v := .ref g_InvalidOrder) rfl m_InvalidOrder rfl) (fun _ h => h) t_InvalidOrder) (a_cons (e_isX ho.er rfl (bn "isinstance" (by decide +kernel)) rfl (pe_glob (v := .ref g_InvalidRow) rfl m_InvalidRow rfl) (fun _ h => h) t_InvalidRow) (a_cons (e_isX ho.er rfl (bn "isinstance" (by decide +kernel)) rfl (pe_glob (v := .ref g_InvalidLot) rfl m_InvalidLot rfl) (fun _ h => h) t_InvalidLot) (a_cons (e_isX ho.er rfl (bn "isinstance" (by decide +kernel)) rfl (pe_glob (v := .ref g_InvalidThing) rfl m_InvalidThing rfl) (fun _ h => h) t_InvalidThing) (a_cons (e_isX ho.er rfl (bn "isinstance" (by decide +kernel)) rfl (pe_glob (v := .ref g_InvalidNumber) rfl m_InvalidNumber rfl) (fun _ h => h) t_InvalidNumber) (a_cons (e_isX ho.er rfl (bn "isinstance" (by decide +kernel)) rfl (pe_glob (v := .ref g_InvalidPair) rfl m_InvalidPair rfl) (fun _ h => h) t_InvalidPair) (a_cons (e_isX ho.er rfl (bn "isinstance" (by decide +kernel)) rfl (pe_glob (v := .ref g_InvalidPairs) rfl m_InvalidPairs rfl) (fun _ h => h) t_InvalidPairs) (a_cons (e_isX ho.er rfl (bn "isinstance" (by decide +kernel)) rfl (pe_glob (v := .ref g_InvalidFacts) rfl m_InvalidFacts rfl) (fun _ h => h) t_InvalidFacts) (a_cons (e_isX ho.er rfl (bn "isinstance" (by decide +kernel)) rfl (pe_glob (v := .ref g_InvalidPlace) rfl m_InvalidPlace rfl) (fun _ h => h) t_InvalidPlace) (a_cons (e_isX ho.er rfl (bn "isinstance" (by decide +kernel)) rfl (pe_glob (v := .ref g_InvalidText) rfl m_InvalidText rfl) (fun _ h => h) t_InvalidText) (a_cons (e_isX ho.er rfl (bn "isinstance" (by decide +kernel)) rfl (pe_glob (v := .ref g_Contrary) rfl m_Contrary rfl) (fun _ h => h) t_Contrary) (a_cons (e_isX ho.er rfl (bn "isinstance" (by decide +kernel)) rfl (pe_glob (v := .ref g_Unlike) rfl m_Unlike rfl) (fun _ h => h) t_Unlike) (a_cons (e_isX ho.er rfl (bn "isinstance" (by decide +kernel)) rfl (pe_glob (v := .ref g_NothingToUndo) rfl m_NothingToUndo rfl) (fun _ h => h) t_NothingToUndo) (a_cons (e_isX ho.er rfl (bn "isinstance" (by decide +kernel)) rfl (pe_glob (v := .ref g_TooMany) rfl m_TooMany rfl) (fun _ h => h) t_TooMany) (a_cons (e_isX ho.er rfl (bn "isinstance" (by decide +kernel)) rfl (pe_bltn (v := .ty "ValueError") rfl (bn "ValueError" (by decide +kernel)) boot_ValueError rfl) (fun _ h => h) t_ValueError) a_nil)))))))))))))))))
    (ss_cons (s_setN (i := 2) ho.nd rfl (by first | exact Or.inl rfl | exact Or.inr rfl) e_str)
    (ss_one (s_ret (e_join e_str (e_lcH (own := [("word", 3), ("good", 4)]) ho.nd ho.hot ho.fn (by decide) (i_zipH rfl (bn "zip" (by decide +kernel)) (a_cons (e_split (ev 2) e_str) (a_cons (ev 1) a_nil))) (blkOk_by (by with_unfolding_all rfl))
      (fun s1 H1 C1 cl1 fp1 g1 => g_tupPH (is := [3, 4]) (hotX_blk g1) (gs_cons (i := 3) ho.nd rfl (by first | exact Or.inl rfl | exact Or.inr rfl) (gs_cons (i := 4) ho.nd rfl (by first | exact Or.inl rfl | exact Or.inr rfl) gs_nil))) (fun s1 H1 C1 cl1 fp1 => pts_one (t_val (ev 4))) (fun s1 H1 C1 cl1 fp1 => ev 3))))))

/-! _law_error -/
abbrev s__law_error : Stmt := top 41
abbrev N__law_error : List Str := ["call", "e"]
theorem sc__law_error : FnScope N__law_error ["call"] (defScope s__law_error) := ⟨rfl, rfl, rfl, by decide +kernel, rfl, by decide +kernel, by decide +kernel⟩
theorem b__law_error {k : Nat} (G : EN.D → C2 → Prop) {jv : Nat} (hG : CalG F P w base G jv 0) (lv : jv ≤ k) {nmS : Str → Option Str} {nmA : Addr → Option Str} {CN : Addr} (gN : F.mg "NearError" = some (.ref CN)) {jn : Nat} (fnN : FnN F P w "_law_names" jn nmA) (ln : jn ≤ k)
    (near : ∀ y t C, nmS y = some t → F.mg y = some (.ref C) → PySem.W.exmOne F.K (.ref C) (.ref CN) = some true ∧ nmA C = some t) (f : Addr) (cdv : Value) (A : Around) (outer : List Env) (s : Shared) (H : Hp) (E : XK)
    (g : Gd F (cxOf (L2N.CX P w) P w F.K F.mg base N__law_error "_law_error" (defScope s__law_error) f cdv A outer s H E) (fun cls d _ H => E cls d H) k) :
    PSs (cxOf (L2N.CX P w) P w F.K F.mg base N__law_error "_law_error" (defScope s__law_error) f cdv A outer s H E) (defBody s__law_error) (tS F (fun cls d _ H => E cls d H) (m__law_error G nmS)) :=
  ss_cons (s_try (i := 1) (nm := nmA) (wrap := .str) g rfl rfl rfl rfl ⟨rfl, by decide, Or.inl gN⟩ (fun W1 pn xe gt => (ss_one (s_expr (e_callv0 gt hG.here lv rfl)))) (fun F1 a oe D d pn le hz hf hx => su_str (i := 1) (g.cx.le le) g.rm (fnN.up le) ln rfl rfl hz hf hx) near) (ss_one (s_ret e_str))

/-! _law_told -/
abbrev s__law_told : Stmt := top 42
abbrev N__law_told : List Str := ["call", "e"]
theorem sc__law_told : FnScope N__law_told ["call"] (defScope s__law_told) := ⟨rfl, rfl, rfl, by decide +kernel, rfl, by decide +kernel, by decide +kernel⟩
theorem b__law_told {k : Nat} (G : EN.D → C2 → Prop) {jv : Nat} (hG : CalG F P w base G jv 0) (lv : jv ≤ k) {nmS : Str → Option Str} {nmA : Addr → Option Str} {CN : Addr} (gN : F.mg "NearError" = some (.ref CN)) {jn : Nat} (fnN : FnN F P w "_law_names" jn nmA) (ln : jn ≤ k)
    (near : ∀ y t C, nmS y = some t → F.mg y = some (.ref C) → PySem.W.exmOne F.K (.ref C) (.ref CN) = some true ∧ nmA C = some t) (f : Addr) (cdv : Value) (A : Around) (outer : List Env) (s : Shared) (H : Hp) (E : XK)
    (g : Gd F (cxOf (L2N.CX P w) P w F.K F.mg base N__law_told "_law_told" (defScope s__law_told) f cdv A outer s H E) (fun cls d _ H => E cls d H) k) :
    PSs (cxOf (L2N.CX P w) P w F.K F.mg base N__law_told "_law_told" (defScope s__law_told) f cdv A outer s H E) (defBody s__law_told) (tS F (fun cls d _ H => E cls d H) (m__law_told G nmS)) :=
  ss_one (s_try (i := 1) (nm := nmA) (wrap := (fun t => .tuple [.none, .str t])) g rfl rfl rfl rfl ⟨rfl, by decide, Or.inl gN⟩ (fun W1 pn xe gt => (ss_one (s_ret (e_tup (a_cons (e_callv0 gt hG.here lv rfl) (a_cons e_str a_nil)))))) (fun F1 a oe D d pn le hz hf hx => su_pair (i := 1) (g.cx.le le) g.rm (fnN.up le) ln rfl rfl hz hf hx) near)

/-! _law_all_refused -/
abbrev s__law_all_refused : Stmt := top 43
abbrev N__law_all_refused : List Str := ["call", "odds", "name", "odd"]
theorem sc__law_all_refused : FnScope N__law_all_refused ["call", "odds", "name"] (defScope s__law_all_refused) := ⟨rfl, rfl, rfl, by decide +kernel, rfl, by decide +kernel, by decide +kernel⟩
theorem b__law_all_refused {k : Nat} (cG__law_error : C2 → Addr → C2) (G_call : EN.D → C2 → Prop) {jl : Nat} {j__law_error : Nat} (hl__law_error : ∀ (F1 : Fx) (base1 : Heap) (f1 : Addr) (cc : C2), FxLe F F1 → CloD F1 P w base1 f1 (jl + 1) 0 cc → FnD F1 P w base1 "_law_error" j__law_error 1 (cG__law_error cc f1)) (l__law_error : j__law_error ≤ k) (gl__law_error : GlA F "_law_error") {jv_call : Nat} (hG_call : CalG F P w base G_call jv_call 1) (lvl_call : jv_call ≤ jl) {cd Pt : Addr} (lt : LamT F "_law_all_refused" cd Pt) (f : Addr) (cdv : Value) (A : Around) (outer : List Env) (s : Shared) (H : Hp) (E : XK) (hcv : cdv = .ref cd)
    (g : Gd F (cxOf (L2N.CX P w) P w F.K F.mg base N__law_all_refused "_law_all_refused" (defScope s__law_all_refused) f cdv A outer s H E) (fun cls d _ H => E cls d H) k) :
    PSs (cxOf (L2N.CX P w) P w F.K F.mg base N__law_all_refused "_law_all_refused" (defScope s__law_all_refused) f cdv A outer s H E) (defBody s__law_all_refused) (tS F (fun cls d _ H => E cls d H) (m__law_all_refused cG__law_error G_call)) :=
  (ss_one (s_ret (e_cmp g.cx .eq false false (e_lcN (own := [("odd", 3)]) g.cx (fun _ => rfl) (by decide) (i_seq (ev 1)) (blkOk_by (by with_unfolding_all rfl)) (fun s1 H1 C1 cl1 fp1 => (g_name (i := 3) ((g).cx.blk s1 H1 _ _ _).nd rfl (by first | exact Or.inl rfl | exact Or.inr rfl))) (fun s1 H1 C1 cl1 fp1 kl1 => (pts_one (t_cmp ((g).cx.blk s1 H1 _ _ _) .ne false false (e_lam (ps := []) (fr := ["call", "odd"]) (N := ["call", "odd"]) (js := [0, 3]) (jl := jl) ((g).blk s1 H1 _ _ _) hl__law_error l__law_error gl__law_error (lt.ok rfl rfl rfl hcv (by with_unfolding_all rfl) (by rfl) (by decide +kernel) rfl (noFr_blk kl1)) rfl rfl (fun q cl pm cv ctv us hl => match us, hl with | [], _ => rfl) (fun Fa1 ba1 cl1 co1 fa1 A1 o1 s1 H1 E1 le1 bl1 ga1 => (e_callv ga1 (hG_call.up Fa1 ba1 le1 bl1) lvl_call rfl (a_cons (ev 1) a_nil))) a_nil) (ev 2)))) (fun s1 H1 C1 cl1 fp1 kl1 => (ev 3))) (e_lst a_nil))))

/-! _law_known -/
abbrev s__law_known : Stmt := top 44
abbrev N__law_known : List Str := ["some"]
theorem sc__law_known : FnScope N__law_known [] (defScope s__law_known) := ⟨rfl, rfl, rfl, by decide +kernel, rfl, by decide +kernel, by decide +kernel⟩
theorem b__law_known {k : Nat} (f : Addr) (cdv : Value) (A : Around) (outer : List Env) (s : Shared) (H : Hp) (E : XK)
    (g : Gd F (cxOf (L2N.CX P w) P w F.K F.mg base N__law_known "_law_known" (defScope s__law_known) f cdv A outer s H E) (fun cls d _ H => E cls d H) k) :
    PSs (cxOf (L2N.CX P w) P w F.K F.mg base N__law_known "_law_known" (defScope s__law_known) f cdv A outer s H E) (defBody s__law_known) (tS F (fun cls d _ H => E cls d H) (m__law_known)) :=
  (ss_cons (s_set (i := 0) g.cx rfl (by first | exact Or.inl rfl | exact Or.inr rfl) (e_lstc (a_cons (e_tup (a_cons e_int (a_cons (e_tup a_nil) a_nil))) (a_cons (e_tup (a_cons e_int (a_cons (e_tup (a_cons (e_tup (a_cons e_int (a_cons e_int a_nil))) (a_cons (e_tup (a_cons e_int (a_cons e_int a_nil))) (a_cons (e_tup (a_cons e_int (a_cons e_int a_nil))) a_nil)))) a_nil))) (a_cons (e_tup (a_cons e_int (a_cons (e_tup (a_cons (e_tup (a_cons e_int (a_cons e_int a_nil))) (a_cons (e_tup (a_cons e_int (a_cons e_int a_nil))) a_nil))) a_nil))) (a_cons (e_tup (a_cons e_int (a_cons (e_tup (a_cons (e_tup (a_cons e_int (a_cons e_int a_nil))) (a_cons (e_tup (a_cons e_int (a_cons e_int a_nil))) (a_cons (e_tup (a_cons e_int (a_cons e_int a_nil))) a_nil)))) a_nil))) a_nil))))))
    (ss_cons (s_expr (e_append (ev 0) (e_tup (a_cons e_int (a_cons (e_tup (a_cons (e_tup (a_cons e_int (a_cons e_int a_nil))) (a_cons (e_tup (a_cons e_int (a_cons e_int a_nil))) (a_cons (e_tup (a_cons e_int (a_cons e_int a_nil))) (a_cons (e_tup (a_cons e_int (a_cons e_int a_nil))) (a_cons (e_tup (a_cons e_int (a_cons e_int a_nil))) (a_cons (e_tup (a_cons e_int (a_cons e_int a_nil))) a_nil))))))) a_nil)))))
    (ss_freeze (ss_one (s_ret (e_bin g.cx .add false false (ev 0) (e_lst (a_cons (e_tup (a_cons e_int (a_cons (e_tup (a_cons (e_tup (a_cons e_int (a_cons e_int a_nil))) (a_cons (e_tup (a_cons e_int (a_cons e_int a_nil))) (a_cons (e_tup (a_cons e_int (a_cons e_int a_nil))) (a_cons (e_tup (a_cons e_int (a_cons e_int a_nil))) a_nil))))) a_nil))) a_nil))))))))

/-! _law_bad_orders -/
abbrev s__law_bad_orders : Stmt := top 45
abbrev N__law_bad_orders : List Str := ["some"]
theorem sc__law_bad_orders : FnScope N__law_bad_orders [] (defScope s__law_bad_orders) := ⟨rfl, rfl, rfl, by decide +kernel, rfl, by decide +kernel, by decide +kernel⟩
theorem b__law_bad_orders {k : Nat} (f : Addr) (cdv : Value) (A : Around) (outer : List Env) (s : Shared) (H : Hp) (E : XK)
    (g : Gd F (cxOf (L2N.CX P w) P w F.K F.mg base N__law_bad_orders "_law_bad_orders" (defScope s__law_bad_orders) f cdv A outer s H E) (fun cls d _ H => E cls d H) k) :
    PSs (cxOf (L2N.CX P w) P w F.K F.mg base N__law_bad_orders "_law_bad_orders" (defScope s__law_bad_orders) f cdv A outer s H E) (defBody s__law_bad_orders) (tS F (fun cls d _ H => E cls d H) (m__law_bad_orders)) :=
  (ss_cons (s_set (i := 0) g.cx rfl (by first | exact Or.inl rfl | exact Or.inr rfl) (e_lst (a_cons e_non (a_cons (e_tup a_nil) (a_cons (e_tup (a_cons e_int (a_cons (e_tup a_nil) a_nil))) (a_cons (e_tup (a_cons e_int (a_cons (e_tup a_nil) a_nil))) (a_cons (e_tup (a_cons e_bl (a_cons (e_tup a_nil) a_nil))) (a_cons (e_tup (a_cons e_int (a_cons (e_lst a_nil) a_nil))) (a_cons (e_lst (a_cons e_int (a_cons (e_tup a_nil) a_nil))) (a_cons (e_tup (a_cons e_int (a_cons (e_tup (a_cons (e_tup (a_cons e_int (a_cons e_int a_nil))) a_nil)) a_nil))) (a_cons (e_tup (a_cons e_int (a_cons (e_tup (a_cons (e_tup (a_cons e_int (a_cons e_int a_nil))) a_nil)) a_nil))) (a_cons (e_tup (a_cons e_int (a_cons (e_tup (a_cons (e_tup (a_cons e_int (a_cons e_int a_nil))) (a_cons (e_tup (a_cons e_int (a_cons e_int a_nil))) a_nil))) a_nil))) a_nil))))))))))))
    (ss_cons (s_set (i := 0) g.cx rfl (by first | exact Or.inl rfl | exact Or.inr rfl) (e_bin g.cx .add false false (ev 0) (e_lst (a_cons (e_tup (a_cons e_int (a_cons (e_tup (a_cons (e_tup (a_cons e_int (a_cons e_int a_nil))) (a_cons (e_tup (a_cons e_int (a_cons e_int a_nil))) a_nil))) a_nil))) (a_cons (e_tup (a_cons e_int (a_cons (e_tup (a_cons (e_tup (a_cons e_int (a_cons e_int a_nil))) (a_cons (e_tup (a_cons e_int (a_cons e_int a_nil))) a_nil))) a_nil))) (a_cons (e_tup (a_cons e_int (a_cons (e_tup (a_cons (e_tup (a_cons e_int (a_cons e_int a_nil))) (a_cons (e_tup (a_cons e_int (a_cons e_int a_nil))) a_nil))) a_nil))) (a_cons (e_tup (a_cons e_int (a_cons (e_tup (a_cons (e_tup (a_cons e_int (a_cons e_bl a_nil))) a_nil)) a_nil))) (a_cons (e_tup (a_cons e_int (a_cons (e_tup (a_cons (e_tup (a_cons e_int a_nil)) a_nil)) a_nil))) (a_cons e_str (a_cons e_int a_nil))))))))))
    (ss_one (s_ret (e_bin g.cx .add false false (ev 0) (e_lst (a_cons (e_tup (a_cons e_int (a_cons (e_tup a_nil) (a_cons (e_tup a_nil) a_nil)))) (a_cons (e_tup (a_cons e_str (a_cons (e_tup a_nil) a_nil))) (a_cons (e_tup (a_cons e_int (a_cons (e_tup (a_cons (e_lst (a_cons e_int (a_cons e_int a_nil))) a_nil)) a_nil))) (a_cons (e_tup (a_cons e_int (a_cons (e_tup (a_cons (e_tup (a_cons e_int (a_cons e_str a_nil))) a_nil)) a_nil))) (a_cons (e_tup (a_cons e_int (a_cons e_non a_nil))) (a_cons (e_tup (a_cons e_int (a_cons (e_tup (a_cons (e_tup (a_cons e_neg (a_cons e_int a_nil))) a_nil)) a_nil))) a_nil))))))))))))

/-! _law_both -/
abbrev s__law_both : Stmt := top 46
abbrev N__law_both : List Str := ["one", "other", "over", "here", "many", "pairs", "there"]
theorem sc__law_both : FnScope N__law_both ["one", "other", "over"] (defScope s__law_both) := ⟨rfl, rfl, rfl, by decide +kernel, rfl, by decide +kernel, by decide +kernel⟩
theorem b__law_both {k : Nat} (bn : ∀ x, x ∈ (["list", "range", "sorted", "tuple"] : List Str) → F.mg x = none) (f : Addr) (cdv : Value) (A : Around) (outer : List Env) (s : Shared) (H : Hp) (E : XK)
    (g : Gd F (cxOf (L2N.CX P w) P w F.K F.mg base N__law_both "_law_both" (defScope s__law_both) f cdv A outer s H E) (fun cls d _ H => E cls d H) k) :
    PSs (cxOf (L2N.CX P w) P w F.K F.mg base N__law_both "_law_both" (defScope s__law_both) f cdv A outer s H E) (defBody s__law_both) (tS F (fun cls d _ H => E cls d H) (m__law_both)) :=
  (ss_cons (s_asg (e_tup (a_cons (e_ix false (ev 0) e_int) (a_cons (e_listC g.cx rfl (bn "list" (by decide +kernel)) PyProof.Rows.boot_list (e_ix false (ev 0) e_int)) a_nil))) (g_tup (is := [4, 5]) g.cx.calm (gs_cons (i := 4) g.cx.nd rfl (by first | exact Or.inl rfl | exact Or.inr rfl) (gs_cons (i := 5) g.cx.nd rfl (by first | exact Or.inl rfl | exact Or.inr rfl) gs_nil))))
    (ss_cons (s_for g.cx g.ps (i_seq (e_ix false (ev 1) e_int)) (g_tup (is := [3, 6]) g.cx.calm (gs_cons (i := 3) g.cx.nd rfl (by first | exact Or.inl rfl | exact Or.inr rfl) (gs_cons (i := 6) g.cx.nd rfl (by first | exact Or.inl rfl | exact Or.inr rfl) gs_nil))) (ss_one (s_expr (e_append (ev 5) (e_tup (a_cons (e_bin g.cx .add false false (ev 3) (ev 4)) (a_cons (e_bin g.cx .add false false (ev 6) (ev 4)) a_nil)))))))
    (ss_freeze (ss_cons (s_for g.cx g.ps (i_range1 rfl (bn "range" (by decide +kernel)) (a_cons (ev 4) a_nil)) (g_name (i := 3) g.cx.nd rfl (by first | exact Or.inl rfl | exact Or.inr rfl)) (ss_one (s_set (i := 5) g.cx rfl (by first | exact Or.inl rfl | exact Or.inr rfl) (e_bin g.cx .add false false (ev 5) (e_lc (own := [("there", 6)]) g.cx (by decide) (i_range1 rfl (bn "range" (by decide +kernel)) (a_cons (e_ix false (ev 1) e_int) a_nil)) (blkOk_by (by with_unfolding_all rfl)) (fun s1 H1 C1 cl1 fp1 => (g_name (i := 6) ((g).cx.blk s1 H1 _ _ _).nd rfl (by first | exact Or.inl rfl | exact Or.inr rfl))) (fun s1 H1 C1 cl1 fp1 => (pts_one (t_val (ev 2)))) (fun s1 H1 C1 cl1 fp1 => (e_tup (a_cons (ev 3) (a_cons (e_bin ((g).cx.blk s1 H1 _ _ _) .add false false (ev 6) (ev 4)) a_nil)))))))))
    (ss_one (s_ret (e_tup (a_cons (e_bin g.cx .add false false (ev 4) (e_ix false (ev 1) e_int)) (a_cons (e_callTy false (tuple_ok g.cx) rfl (bn "tuple" (by decide +kernel)) PyProof.Rows.boot_tuple (e_callB false (sorted_ok g.cx) rfl (bn "sorted" (by decide +kernel)) PyProof.Rows.boot_sorted (ev 5))) a_nil)))))))))

/-! law -/
abbrev s_law : Stmt := top 47
abbrev N_law : List Str := ["script", "k", "vat", "turn", "call", "a", "c", "v", "n", "b", "d", "lot", "pairs", "due", "one", "other", "over", "pair", "thing"]
theorem sc_law : FnScope N_law ["script"] (defScope s_law) := ⟨rfl, rfl, rfl, by decide +kernel, rfl, by decide +kernel, by decide +kernel⟩
theorem b_law {k : Nat} (F : Fx) (c__law_vat : C2) (c__law_order : C2) (c_turned : C2) (c__law_both : C2) (c__law_under : C2) (c__law_bad_orders : C2) (c__law_known : C2) (c_stacked : C2) (c_beside : C2) (c_part : C2) (c__law_all_refused__turned : C2) (cG__law_told : C2 → Addr → C2) (cG__law_all_refused : C2 → Addr → C2) (cG__law_error : C2 → Addr → C2) (G_call : EN.D → C2 → Prop) {j__law_vat : Nat} (h__law_vat : FnA P w F "_law_vat" j__law_vat 2 c__law_vat) {j__law_order : Nat} (h__law_order : FnA P w F "_law_order" j__law_order 2 c__law_order) {j_turned : Nat} (h_turned : FnA P w F "turned" j_turned 1 c_turned) {j__law_both : Nat} (h__law_both : FnA P w F "_law_both" j__law_both 3 c__law_both) {j__law_under : Nat} (h__law_under : FnA P w F "_law_under" j__law_under 2 c__law_under) {j__law_bad_orders : Nat} (h__law_bad_orders : FnA P w F "_law_bad_orders" j__law_bad_orders 0 c__law_bad_orders) {j__law_known : Nat} (h__law_known : FnA P w F "_law_known" j__law_known 0 c__law_known) {j_stacked : Nat} (h_stacked : FnA P w F "stacked" j_stacked 2 c_stacked) {j_beside : Nat} (h_beside : FnA P w F "beside" j_beside 2 c_beside) {j_part : Nat} (h_part : FnA P w F "part" j_part 2 c_part) {j__law_all_refused__turned : Nat} (h__law_all_refused__turned : FnA P w F "_law_all_refused" j__law_all_refused__turned 3 c__law_all_refused__turned) (l__law_vat : j__law_vat ≤ k) (l__law_order : j__law_order ≤ k) (l_turned : j_turned ≤ k) (l__law_both : j__law_both ≤ k) (l__law_under : j__law_under ≤ k) (l__law_bad_orders : j__law_bad_orders ≤ k) (l__law_known : j__law_known ≤ k) (l_stacked : j_stacked ≤ k) (l_beside : j_beside ≤ k) (l_part : j_part ≤ k) (l__law_all_refused__turned : j__law_all_refused__turned ≤ k) {jl : Nat} (ll_part : j_part ≤ jl) (ll_stacked : j_stacked ≤ jl) {j__law_told : Nat} (hl__law_told : ∀ (F1 : Fx) (base1 : Heap) (f1 : Addr) (cc : C2), FxLe F F1 → CloD F1 P w base1 f1 (jl + 1) 0 cc → FnD F1 P w base1 "_law_told" j__law_told 1 (cG__law_told cc f1)) (l__law_told : j__law_told ≤ k) (gl__law_told : GlA F "_law_told") {j__law_all_refused : Nat} (hl__law_all_refused : ∀ (F1 : Fx) (base1 : Heap) (f1 : Addr) (cc : C2), FxLe F F1 → CloD F1 P w base1 f1 (jl + 1) 1 cc → FnD F1 P w base1 "_law_all_refused" j__law_all_refused 3 (cG__law_all_refused cc f1)) (l__law_all_refused : j__law_all_refused ≤ k) (gl__law_all_refused : GlA F "_law_all_refused") {j__law_error : Nat} (hl__law_error : ∀ (F1 : Fx) (base1 : Heap) (f1 : Addr) (cc : C2), FxLe F F1 → CloD F1 P w base1 f1 (jl + 1) 0 cc → FnD F1 P w base1 "_law_error" j__law_error 1 (cG__law_error cc f1)) (l__law_error : j__law_error ≤ k) (gl__law_error : GlA F "_law_error") {jv_call : Nat} (hG_call : CalG F P w base G_call jv_call 2) (lvl_call : jv_call ≤ jl) {cd Pt : Addr} (lt : LamT F "law" cd Pt) (gf_beside : GlF F "beside") (gf_stacked : GlF F "stacked") (gf_part : GlF F "part") (gf_turned : GlF F "turned") (bn : ∀ x, x ∈ (["len", "max", "min", "range", "sorted", "tuple"] : List Str) → F.mg x = none) (f : Addr) (cdv : Value) (A : Around) (outer : List Env) (s : Shared) (H : Hp) (E : XK) (hcv : cdv = .ref cd)
    (g : Gd F (cxOf (L2N.CX P w) P w F.K F.mg base N_law "law" (defScope s_law) f cdv A outer s H E) (fun cls d _ H => E cls d H) k) :
    PSs (cxOf (L2N.CX P w) P w F.K F.mg base N_law "law" (defScope s_law) f cdv A outer s H E) (defBody s_law) (tS F (fun cls d _ H => E cls d H) (m_law F c__law_vat c__law_order c_turned c__law_both c__law_under c__law_bad_orders c__law_known c_stacked c_beside c_part c__law_all_refused__turned cG__law_told cG__law_all_refused cG__law_error G_call)) :=
  (ss_cons (s_for g.cx g.ps (i_range1 rfl (bn "range" (by decide +kernel)) (a_cons (e_max2 g.cx rfl (bn "max" (by decide +kernel)) (a_cons e_int (a_cons (e_min2 g.cx rfl (bn "min" (by decide +kernel)) (a_cons e_int (a_cons (e_lenS g.cx rfl (bn "len" (by decide +kernel)) rfl) a_nil))) a_nil))) a_nil)) (g_name (i := 1) g.cx.nd rfl (by first | exact Or.inl rfl | exact Or.inr rfl)) (ss_cons (s_set (i := 2) g.cx rfl (by first | exact Or.inl rfl | exact Or.inr rfl) (e_call g (h__law_vat F base (FxLe.refl F)) l__law_vat rfl (a_cons (ev 0) (a_cons (ev 1) a_nil))))
    (ss_cons (s_for g.cx g.ps (i_range1 rfl (bn "range" (by decide +kernel)) (a_cons e_int a_nil)) (g_name (i := 3) g.cx.nd rfl (by first | exact Or.inl rfl | exact Or.inr rfl)) (ss_cons (s_asg (e_tup (a_cons (e_call g (h__law_order F base (FxLe.refl F)) l__law_order rfl (a_cons (ev 2) (a_cons e_int a_nil))) (a_cons (e_call g (h__law_order F base (FxLe.refl F)) l__law_order rfl (a_cons (ev 2) (a_cons e_int a_nil))) a_nil))) (g_tup (is := [14, 15]) g.cx.calm (gs_cons (i := 14) g.cx.nd rfl (by first | exact Or.inl rfl | exact Or.inr rfl) (gs_cons (i := 15) g.cx.nd rfl (by first | exact Or.inl rfl | exact Or.inr rfl) gs_nil))))
    (ss_cons (s_if (t_cmp g.cx .ne false false (e_call g (h_turned F base (FxLe.refl F)) l_turned rfl (a_cons (ev 14) a_nil)) (e_tup (a_cons (e_ix false (ev 14) e_int) (a_cons (e_callTy false (tuple_ok g.cx) rfl (bn "tuple" (by decide +kernel)) PyProof.Rows.boot_tuple (e_callB false (sorted_ok g.cx) rfl (bn "sorted" (by decide +kernel)) PyProof.Rows.boot_sorted (e_lc (own := [("pair", 17)]) g.cx (by decide) (i_seq (e_ix false (ev 14) e_int)) (blkOk_by (by with_unfolding_all rfl)) (fun s1 H1 C1 cl1 fp1 => (g_name (i := 17) ((g).cx.blk s1 H1 _ _ _).nd rfl (by first | exact Or.inl rfl | exact Or.inr rfl))) (fun s1 H1 C1 cl1 fp1 => t_yes) (fun s1 H1 C1 cl1 fp1 => (e_tup (a_cons (e_ix false (ev 17) e_int) (a_cons (e_ix false (ev 17) e_int) a_nil))))))) a_nil)))) (ss_one (s_ret e_bl)) ss_nil)
    (ss_cons (s_for g.cx g.ps (i_seq (e_lst (a_cons (e_tup (a_cons (gf_stacked.e rfl) (a_cons e_bl a_nil))) (a_cons (e_tup (a_cons (gf_beside.e rfl) (a_cons e_bl a_nil))) a_nil)))) (g_tup (is := [4, 16]) g.cx.calm (gs_cons (i := 4) g.cx.nd rfl (by first | exact Or.inl rfl | exact Or.inr rfl) (gs_cons (i := 16) g.cx.nd rfl (by first | exact Or.inl rfl | exact Or.inr rfl) gs_nil))) (ss_cons (s_set (i := 13) g.cx rfl (by first | exact Or.inl rfl | exact Or.inr rfl) (e_if (t_cmp g.cx .lt false false (e_bin g.cx .add false false (e_ix false (ev 14) e_int) (e_ix false (ev 15) e_int)) e_int) (e_tup (a_cons (e_call g (h__law_both F base (FxLe.refl F)) l__law_both rfl (a_cons (ev 14) (a_cons (ev 15) (a_cons (ev 16) a_nil)))) (a_cons e_str a_nil))) (e_tup (a_cons e_non (a_cons e_str a_nil)))))
    (ss_one (s_if (t_cmp g.cx .ne false false (e_lam (ps := []) (fr := ["call", "one", "other"]) (N := ["call", "one", "other"]) (js := [4, 14, 15]) (jl := jl) g hl__law_told l__law_told gl__law_told (lt.ok rfl rfl rfl hcv (by with_unfolding_all rfl) (by rfl) (by decide +kernel) rfl (noFr_own fun _ _ => rfl)) rfl rfl (fun q cl pm cv ctv us hl => match us, hl with | [], _ => rfl) (fun Fa1 ba1 cl1 co1 fa1 A1 o1 s1 H1 E1 le1 bl1 ga1 => (e_callv ga1 (hG_call.up Fa1 ba1 le1 bl1) lvl_call rfl (a_cons (ev 1) (a_cons (ev 2) a_nil)))) a_nil) (ev 13)) (ss_one (s_ret e_bl)) ss_nil))))
    (ss_cons (s_set (i := 11) g.cx rfl (by first | exact Or.inl rfl | exact Or.inr rfl) (e_callTy false (tuple_ok g.cx) rfl (bn "tuple" (by decide +kernel)) PyProof.Rows.boot_tuple (e_lc (own := [("thing", 18)]) g.cx (by decide) (i_range1 rfl (bn "range" (by decide +kernel)) (a_cons (e_ix false (ev 14) e_int) a_nil)) (blkOk_by (by with_unfolding_all rfl)) (fun s1 H1 C1 cl1 fp1 => (g_name (i := 18) ((g).cx.blk s1 H1 _ _ _).nd rfl (by first | exact Or.inl rfl | exact Or.inr rfl))) (fun s1 H1 C1 cl1 fp1 => (pts_one (t_cmp ((g).cx.blk s1 H1 _ _ _) .eq false false (e_call ((g).blk s1 H1 _ _ _) (h__law_under F base (FxLe.refl F)) l__law_under rfl (a_cons (ev 2) (a_cons e_int a_nil))) e_int))) (fun s1 H1 C1 cl1 fp1 => (ev 18)))))
    (ss_cons (s_setLc (own := [("pair", 17)]) (i := 12) g.cx (by decide) rfl rfl rfl (i_seq (e_ix false (ev 14) e_int)) (blkOk_by (by with_unfolding_all rfl)) (fun s1 H1 C1 cl1 fp1 => (g_name (i := 17) ((g).cx.blk s1 H1 _ _ _).nd rfl (by first | exact Or.inl rfl | exact Or.inr rfl))) (fun s1 H1 C1 cl1 fp1 => (pts_one (t_w (w_and (t_cmp ((g).cx.blk s1 H1 _ _ _) .inn false false (e_ix false (ev 17) e_int) (ev 11)) (w_and1 (t_cmp ((g).cx.blk s1 H1 _ _ _) .inn false false (e_ix false (ev 17) e_int) (ev 11))))))) (fun s1 H1 C1 cl1 fp1 => (e_tup (a_cons (e_index ((g).cx.blk s1 H1 _ _ _) (ev 11) (e_ix false (ev 17) e_int)) (a_cons (e_index ((g).cx.blk s1 H1 _ _ _) (ev 11) (e_ix false (ev 17) e_int)) a_nil)))))
    (ss_cons (s_set (i := 13) g.cx rfl (by first | exact Or.inl rfl | exact Or.inr rfl) (e_if (t_cmp g.cx .ne false false (ev 11) (e_tup a_nil)) (e_tup (a_cons (e_tup (a_cons (e_callB false (len_ok g.cx) rfl (bn "len" (by decide +kernel)) PySem.boot_len (ev 11)) (a_cons (e_callTy false (tuple_ok g.cx) rfl (bn "tuple" (by decide +kernel)) PyProof.Rows.boot_tuple (e_callB false (sorted_ok g.cx) rfl (bn "sorted" (by decide +kernel)) PyProof.Rows.boot_sorted (ev 12))) a_nil))) (a_cons e_str a_nil))) (e_tup (a_cons e_non (a_cons e_str a_nil)))))
    (ss_one (s_if (t_cmp g.cx .ne false false (e_lam (ps := []) (fr := ["one", "lot"]) (N := ["one", "lot"]) (js := [14, 11]) (jl := jl) g hl__law_told l__law_told gl__law_told (lt.ok rfl rfl rfl hcv (by with_unfolding_all rfl) (by rfl) (by decide +kernel) rfl (noFr_own fun _ _ => rfl)) rfl rfl (fun q cl pm cv ctv us hl => match us, hl with | [], _ => rfl) (fun Fa2 ba2 cl2 co2 fa2 A2 o2 s2 H2 E2 le2 bl2 ga2 => (e_call ga2 (h_part Fa2 ba2 le2) ll_part rfl (a_cons (ev 0) (a_cons (ev 1) a_nil)))) a_nil) (ev 13)) (ss_one (s_ret e_bl)) ss_nil)))))))))
    (ss_cons (s_for g.cx g.ps (i_seq (e_tup (a_cons (gf_stacked.e rfl) (a_cons (gf_beside.e rfl) (a_cons (gf_part.e rfl) a_nil))))) (g_name (i := 4) g.cx.nd rfl (by first | exact Or.inl rfl | exact Or.inr rfl)) (ss_one (s_if (t_not (t_val (e_lam (ps := ["odd"]) (fr := ["call"]) (N := ["odd", "call"]) (js := [4]) (jl := jl) g hl__law_all_refused l__law_all_refused gl__law_all_refused (lt.ok rfl rfl rfl hcv (by with_unfolding_all rfl) (by rfl) (by decide +kernel) rfl (noFr_own fun _ _ => rfl)) rfl rfl (fun q cl pm cv ctv us hl => match us, hl with | [_], _ => rfl) (fun Fa3 ba3 cl3 co3 fa3 A3 o3 s3 H3 E3 le3 bl3 ga3 => (e_callv ga3 (hG_call.up Fa3 ba3 le3 bl3) lvl_call rfl (a_cons (ev 0) (a_cons e_non a_nil)))) (a_cons (e_call0 g (h__law_bad_orders F base (FxLe.refl F)) l__law_bad_orders rfl) (a_cons e_str a_nil))))) (ss_one (s_ret e_bl)) ss_nil)))
    (ss_cons (s_for g.cx g.ps (i_seq (e_tup (a_cons (gf_stacked.e rfl) (a_cons (gf_beside.e rfl) a_nil)))) (g_name (i := 4) g.cx.nd rfl (by first | exact Or.inl rfl | exact Or.inr rfl)) (ss_one (s_if (t_not (t_val (e_lam (ps := ["odd"]) (fr := ["call", "one"]) (N := ["odd", "call", "one"]) (js := [4, 14]) (jl := jl) g hl__law_all_refused l__law_all_refused gl__law_all_refused (lt.ok rfl rfl rfl hcv (by with_unfolding_all rfl) (by rfl) (by decide +kernel) rfl (noFr_own fun _ _ => rfl)) rfl rfl (fun q cl pm cv ctv us hl => match us, hl with | [_], _ => rfl) (fun Fa4 ba4 cl4 co4 fa4 A4 o4 s4 H4 E4 le4 bl4 ga4 => (e_callv ga4 (hG_call.up Fa4 ba4 le4 bl4) lvl_call rfl (a_cons (ev 2) (a_cons (ev 0) a_nil)))) (a_cons (e_call0 g (h__law_bad_orders F base (FxLe.refl F)) l__law_bad_orders rfl) (a_cons e_str a_nil))))) (ss_one (s_ret e_bl)) ss_nil)))
    (ss_cons (s_if (t_not (t_val (e_call g (h__law_all_refused__turned F base (FxLe.refl F)) l__law_all_refused__turned rfl (a_cons (gf_turned.e rfl) (a_cons (e_call0 g (h__law_bad_orders F base (FxLe.refl F)) l__law_bad_orders rfl) (a_cons e_str a_nil)))))) (ss_one (s_ret e_bl)) ss_nil)
    (ss_one (s_if (t_not (t_val (e_lam (ps := ["odd"]) (fr := ["one"]) (N := ["odd", "one"]) (js := [14]) (jl := jl) g hl__law_all_refused l__law_all_refused gl__law_all_refused (lt.ok rfl rfl rfl hcv (by with_unfolding_all rfl) (by rfl) (by decide +kernel) rfl (noFr_own fun _ _ => rfl)) rfl rfl (fun q cl pm cv ctv us hl => match us, hl with | [_], _ => rfl) (fun Fa5 ba5 cl5 co5 fa5 A5 o5 s5 H5 E5 le5 bl5 ga5 => (e_call ga5 (h_part Fa5 ba5 le5) ll_part rfl (a_cons (ev 1) (a_cons (ev 0) a_nil)))) (a_cons (e_lst (a_cons e_non (a_cons (e_lst (a_cons e_int a_nil)) (a_cons (e_tup (a_cons e_int (a_cons e_int a_nil))) (a_cons (e_tup (a_cons e_int (a_cons e_int a_nil))) (a_cons (e_tup (a_cons (e_ix false (ev 14) e_int) a_nil)) (a_cons (e_tup (a_cons e_bl a_nil)) (a_cons e_str (a_cons e_int a_nil))))))))) (a_cons e_str a_nil))))) (ss_one (s_ret e_bl)) ss_nil))))))))
    (ss_cons (s_asg (e_call0 g (h__law_known F base (FxLe.refl F)) l__law_known rfl) (g_lst (is := [5, 6, 7, 8, 9, 10]) g.cx.calm (gs_cons (i := 5) g.cx.nd rfl (by first | exact Or.inl rfl | exact Or.inr rfl) (gs_cons (i := 6) g.cx.nd rfl (by first | exact Or.inl rfl | exact Or.inr rfl) (gs_cons (i := 7) g.cx.nd rfl (by first | exact Or.inl rfl | exact Or.inr rfl) (gs_cons (i := 8) g.cx.nd rfl (by first | exact Or.inl rfl | exact Or.inr rfl) (gs_cons (i := 9) g.cx.nd rfl (by first | exact Or.inl rfl | exact Or.inr rfl) (gs_cons (i := 10) g.cx.nd rfl (by first | exact Or.inl rfl | exact Or.inr rfl) gs_nil))))))))
    (ss_cons (s_if (t_w (w_or (t_cmp g.cx .ne false false (e_call g (h_turned F base (FxLe.refl F)) l_turned rfl (a_cons (ev 7) a_nil)) (e_tup (a_cons e_int (a_cons (e_tup (a_cons (e_tup (a_cons e_int (a_cons e_int a_nil))) (a_cons (e_tup (a_cons e_int (a_cons e_int a_nil))) a_nil))) a_nil)))) (w_or1 (t_cmp g.cx .ne false false (e_call g (h_stacked F base (FxLe.refl F)) l_stacked rfl (a_cons (ev 7) (a_cons (e_tup (a_cons e_int (a_cons (e_tup a_nil) a_nil))) a_nil))) (e_tup (a_cons e_int (a_cons (e_tup (a_cons (e_tup (a_cons e_int (a_cons e_int a_nil))) (a_cons (e_tup (a_cons e_int (a_cons e_int a_nil))) (a_cons (e_tup (a_cons e_int (a_cons e_int a_nil))) (a_cons (e_tup (a_cons e_int (a_cons e_int a_nil))) (a_cons (e_tup (a_cons e_int (a_cons e_int a_nil))) a_nil)))))) a_nil))))))) (ss_one (s_ret e_bl)) ss_nil)
    (ss_cons (s_if (t_w (w_or (t_cmp g.cx .ne false false (e_call g (h_beside F base (FxLe.refl F)) l_beside rfl (a_cons (e_tup (a_cons e_int (a_cons (e_tup a_nil) a_nil))) (a_cons (e_tup (a_cons e_int (a_cons (e_tup (a_cons (e_tup (a_cons e_int (a_cons e_int a_nil))) a_nil)) a_nil))) a_nil))) (e_tup (a_cons e_int (a_cons (e_tup (a_cons (e_tup (a_cons e_int (a_cons e_int a_nil))) a_nil)) a_nil)))) (w_or (t_cmp g.cx .ne false false (e_call g (h_part F base (FxLe.refl F)) l_part rfl (a_cons (ev 8) (a_cons (e_tup (a_cons e_int (a_cons e_int (a_cons e_int a_nil)))) a_nil))) (e_tup (a_cons e_int (a_cons (e_tup (a_cons (e_tup (a_cons e_int (a_cons e_int a_nil))) a_nil)) a_nil)))) (w_or1 (t_cmp g.cx .ne false false (e_call g (h_part F base (FxLe.refl F)) l_part rfl (a_cons (ev 9) (a_cons (e_tup (a_cons e_int (a_cons e_int a_nil))) a_nil))) (e_tup (a_cons e_int (a_cons (e_tup (a_cons (e_tup (a_cons e_int (a_cons e_int a_nil))) a_nil)) a_nil)))))))) (ss_one (s_ret e_bl)) ss_nil)
    (ss_one (s_ret (e_and (e_cmp g.cx .eq false false (e_lam (ps := []) (fr := ["n", "a"]) (N := ["n", "a"]) (js := [8, 5]) (jl := jl) g hl__law_error l__law_error gl__law_error (lt.ok rfl rfl rfl hcv (by with_unfolding_all rfl) (by rfl) (by decide +kernel) rfl (noFr_own fun _ _ => rfl)) rfl rfl (fun q cl pm cv ctv us hl => match us, hl with | [], _ => rfl) (fun Fa6 ba6 cl6 co6 fa6 A6 o6 s6 H6 E6 le6 bl6 ga6 => (e_call ga6 (h_stacked Fa6 ba6 le6) ll_stacked rfl (a_cons (ev 0) (a_cons (ev 1) a_nil)))) a_nil) e_str) (e_one (e_cmp g.cx .eq false false (e_call g (h_stacked F base (FxLe.refl F)) l_stacked rfl (a_cons (e_tup (a_cons e_int (a_cons (e_tup a_nil) a_nil))) (a_cons (e_tup (a_cons e_int (a_cons (e_tup a_nil) a_nil))) a_nil))) (e_tup (a_cons e_int (a_cons (e_tup (a_cons (e_tup (a_cons e_int (a_cons e_int a_nil))) a_nil)) a_nil))))))))))))

end
end K06

/-! == CH5 == -/
set_option Elab.async false
set_option linter.all false
set_option maxRecDepth 100000
set_option maxHeartbeats 4000000
set_option autoImplicit false
/-! CH5: _law_both, _law_known. -/
namespace EN
open PySem PySem.Spec PyProof.Rows L2 PySem.W
def cBothL : C2 := ⟨fun ds S Q E => ∃ (m k : Int) (ps qs : List IP) (over : Bool), ds = [oD m ps, oD k qs, .bool over] ∧ 0 ≤ m ∧ m ≤ 6 ∧ 0 ≤ k ∧ k ≤ 6 ∧ ps.length ≤ 36 ∧ qs.length ≤ 36 ∧ Q (oD (m + k) (srtP (bothP m ps k qs over))) S,
  fun q e ⟨m, k, ps, qs, over, h1, h2, h3, h4, h5, h6, h7, h8⟩ => ⟨m, k, ps, qs, over, h1, h2, h3, h4, h5, h6, h7, q _ _ h8⟩⟩
theorem put_none {S : Sto} {p b : Addr} {c : Cell} (h : S p = none) : (S.put p c).del p = S := del_put h
theorem crossP_eq (m k : Int) : crossP m k = (rangeI m).flatMap fun here => (rangeI k).map fun there => (here, there + m) := rfl
theorem hc__law_both : ∀ (ds : List D) (S : Sto) (Q : QD) (E : QX), ds.length = 3 → cBothL.run ds S Q E → m__law_both.run (startD ["one", "other", "over", "here", "many", "pairs", "there"] ds) S (fun _ S' => Q .none S') Q (fun x _ S' => E x S') := by
  rintro ds S Q E _ ⟨m, k, ps, qs, over, rfl, m0, m1, k0, k1, lp, lq, q⟩
  simp only [m__law_both, startD]
  have hz := size_ge
  simp [oD, prsD]
  refine ⟨by omega, fun p hp => ?_⟩
  refine forL_map pairD (fun i ρ S' => (∃ d3 d6, ρ = [some (oD m ps), some (oD k qs), some (.bool over), d3, some (.int m), some (refD p), d6]) ∧ ∃ l : List IP, S' = S.put p (.lst (l.map pairD)) ∧ l = ps ++ (qs.take i).map (shiftP m)) qs ?_ ?_ ?_
  · rintro i x ρ S' hx ⟨⟨d3, d6, rfl⟩, l, rfl, hl⟩
    refine ⟨_, rfl, ?_⟩
    have hi : i < qs.length := by
      rcases Nat.lt_or_ge i qs.length with h | h
      · exact h
      · rw [List.getElem?_eq_none h] at hx; cases hx
    have ll : l.length ≤ 72 := by rw [hl]; simp; omega
    simp
    refine ⟨by omega, ?_⟩
    rw [hl, List.take_add_one]
    simp [hx, pairD, shiftP]
  · exact ⟨⟨_, _, rfl⟩, ps, rfl, by simp⟩
  · rintro ρ S' ⟨⟨d3, d6, rfl⟩, l, rfl, hl⟩
    rw [List.take_length] at hl
    have ll : l.length ≤ 72 := by rw [hl]; simp; omega
    refine ⟨p, rfl, _, put_at, _, rfl, _, rng1_eq m (by omega), ?_⟩
    rw [del_put hp]
    refine forL_map PyData.int (fun i ρ S' => (∃ d3, ∃ l2 : List IP, ρ = [some (oD m ps), some (oD k qs), some (.bool over), d3, some (.int m), some (lsD (l ++ l2)), d6] ∧ l2.length ≤ 6 * i ∧ l2 = if over then ((rangeI m).take i).flatMap fun here => (rangeI k).map fun there => (here, there + m) else []) ∧ S' = S) (rangeI m) ?_ ?_ ?_
    · rintro i x ρ S' hx ⟨⟨d3, l2, rfl, h2, h3⟩, rfl⟩
      refine ⟨_, rfl, ?_⟩
      obtain ⟨hx', hi⟩ := rangeI_get hx
      simp [oD]
      rw [rng1_eq k (by omega)]
      simp
      refine lcG_map PyData.int (fun j acc S5 => acc = (if over then ((rangeI k).take j).map fun there => ((x, there + m) : IP) else []).map pairD ∧ S5 = S') (rangeI k) (fun j y acc S5 hy ⟨h4, h5⟩ => ?_) ⟨by cases over <;> rfl, rfl⟩ (fun acc S5 ⟨h4, h5⟩ => ?_)
      · refine ⟨_, rfl, ?_⟩
        subst h5
        have hj := (rangeI_get hy).2
        have la : acc.length ≤ 1000 := by
          rw [h4, List.length_map]
          have := len_rangeI k
          split
          · simp; omega
          · simp
        cases over with
        | false =>
          simp at h4 ⊢
          exact h4
        | true =>
          simp only [if_true] at h4
          simp
          refine ⟨by omega, ?_⟩
          rw [h4, List.map_map, ← List.map_take, List.take_add_one, hy]
          simp [pairD]
      · subst h5
        rw [List.take_length] at h4
        have lr := len_rangeI k
        have ac : acc = (if over then (rangeI k).map fun there => ((x, there + m) : IP) else []).map pairD := h4
        have lac : (if over then (rangeI k).map fun there => ((x, there + m) : IP) else []).length ≤ 6 := by
          split
          · simp; omega
          · simp
        have e2 : (if over then ((rangeI m).take (i + 1)).flatMap fun here => (rangeI k).map fun there => ((here, there + m) : IP) else []) = l2 ++ (if over then (rangeI k).map fun there => ((x, there + m) : IP) else []) := by
          rw [h3, List.take_add_one, hx]
          cases over with
          | true => simp
          | false => rfl
        have ad := add_lists ((l ++ l2).map pairD) acc (by rw [ac]; simp only [List.length_map, List.length_append]; omega)
        refine ⟨_, ad, ⟨?_, ?_⟩, rfl⟩
        · rw [e2, ac]; simp
        · rw [e2, List.length_append]; omega
    · exact ⟨⟨d3, [], by simp, by simp, by cases over <;> rfl⟩, rfl⟩
    · rintro ρ S' ⟨⟨d3, l2, rfl, h2, h3⟩, rfl⟩
      rw [List.take_length] at h3
      have s := sorted_pairs (l ++ l2)
      simp [oD, s]
      have e : l ++ l2 = bothP m ps k qs over := by
        rw [hl, h3]
        unfold bothP crossP
        rfl
      rw [e]
      exact q
def knownL : List (Int × List IP) := [(3, []), (3, [(0, 1), (0, 2), (1, 2)]), (3, [(0, 1), (0, 2)]), (4, [(0, 2), (1, 2), (1, 3)]), (6, [(0, 3), (0, 4), (0, 5), (1, 4), (1, 5), (2, 5)]), (5, [(0, 1), (0, 2), (1, 2), (3, 4)])]
def gKnown (ds : List D) : Res := .ok (.list (knownL.map fun p => oD p.1 p.2))
theorem hc__law_known : ∀ (ds : List D) (S : Sto) (Q : QD) (E : QX), ds.length = 0 → (C2.pure gKnown).run ds S Q E → m__law_known.run (startD ["some"] ds) S (fun _ S' => Q .none S') Q (fun x _ S' => E x S') := by
  rintro ds S Q E h q
  obtain rfl := List.length_eq_zero_iff.mp h
  simp only [m__law_known, startD]
  have hz := size_ge
  have a1 : ∀ a b : List D, a.length + b.length ≤ 16777216 → op2 .add (.list a) (.list b) = some (.list (a ++ b)) := add_lists
  simp
  refine fun p hp => ?_
  rw [a1 _ _ (by simp)]
  refine ⟨by omega, _, rfl, ?_⟩
  rw [del_put hp]
  exact q
end EN

/-! == CH6 == -/
set_option Elab.async false
set_option linter.all false
set_option maxRecDepth 100000
set_option maxHeartbeats 4000000
set_option autoImplicit false
/-! CH6: a law's statements, one behind the other. -/
namespace EN
open PySem PySem.Spec PyProof.Rows L2 PySem.W
section
variable {ρ : Lo} {S : Sto} {nx : Lo → Sto → Prop} {rt : D → Sto → Prop} {xs : Str → Lo → Sto → Prop} {A B : MS}
theorem seq_cut (R : Lo → Sto → Prop) (h1 : A.run ρ S R rt xs) (h2 : ∀ ρ1 S1, R ρ1 S1 → B.run ρ1 S1 nx rt xs) : (MS.seq A B).run ρ S nx rt xs :=
  A.mono h2 (fun _ _ k => k) (fun _ _ _ k => k) h1
theorem to_end (R : Lo → Sto → Prop) (h1 : A.run ρ S R rt xs) (h2 : ∀ ρ1 S1, R ρ1 S1 → nx ρ1 S1) : A.run ρ S nx rt xs :=
  A.mono h2 (fun _ _ k => k) (fun _ _ _ k => k) h1
/-- for over a written list -/
theorem forL_nil {tg : Tg} {b : MS} (h : nx ρ S) : MS.forL tg b nx rt xs [] ρ S := h
theorem forL_cons {tg : Tg} {b : MS} {d : D} {ds : List D} {ρ' : Lo} (e : tg d ρ = some ρ') (h : b.run ρ' S (fun ρ2 S2 => MS.forL tg b nx rt xs ds ρ2 S2) rt xs) : MS.forL tg b nx rt xs (d :: ds) ρ S := ⟨ρ', e, h⟩
end
@[simp] theorem min2 (i j : Int) : minD2 [.int i, .int j] = some (.int (if j < i then j else i)) := rfl
@[simp] theorem max2 (i j : Int) : maxD2 [.int i, .int j] = some (.int (if j > i then j else i)) := rfl
@[simp] theorem o_ix0 (n : Int) (ps : List IP) : ixD (oD n ps) (.int 0) = some (.int n) := rfl
@[simp] theorem o_ix1 (n : Int) (ps : List IP) : ixD (oD n ps) (.int 1) = some (prsD ps) := rfl
@[simp] theorem prs_items (ps : List IP) : asL (prsD ps) = some (ps.map pairD) := rfl
@[simp] theorem row_items (r : List Int) : asL (rowD r) = some (r.map .int) := rfl
@[simp] theorem ls_tuple (ps : List IP) : tupleD (.list (ps.map pairD)) = some (prsD ps) := rfl
@[simp] theorem li_tuple (r : List Int) : tupleD (.list (r.map .int)) = some (rowD r) := rfl
@[simp] theorem prs_list (ps : List IP) : listD (prsD ps) = some (.list (ps.map pairD)) := rfl
@[simp] theorem row_len' (r : List Int) : lenD (rowD r) = some (.int r.length) := by simp [rowD]
@[simp] theorem fold_prs (ps : List IP) : (.tuple (ps.map pairD) : D) = prsD ps := rfl
@[simp] theorem fold_row (r : List Int) : (.tuple (r.map .int) : D) = rowD r := rfl
@[simp] theorem fold_o (n : Int) (ps : List IP) : (.tuple [.int n, prsD ps] : D) = oD n ps := rfl
theorem sorted_mapP {X : Type} (f : X → IP) (l : List X) : sortedD (.list (l.map fun p => pairD (f p))) = some (.list ((srtP (l.map f)).map pairD)) := by
  have := sorted_pairs (l.map f)
  rw [List.map_map] at this
  exact this
theorem lamC_run (len : Nat) (caps : List D) (body : M D) (ds : List D) (S : Sto) (Q : QD) (E : QX) : (lamC len caps body).run ds S Q E = body.run (ds.map some ++ (caps.map some ++ List.replicate (len - ds.length - caps.length) none)) S Q E := rfl
theorem cErr_run (nm : Str → Option Str) (ok : D → D) (wrap : Str → D) (cc : C2) (d : D) (S : Sto) (Q : QD) (E : QX) : (cErr nm ok wrap cc d).run [d] S Q E = cc.run [] S (fun d S1 => Q (ok d) S1) (fun x S1 => ∃ t, nm x = some t ∧ Q (wrap t) S1) := by
  show ([d] = [d] ∧ _) = _
  simp
theorem caps_two {A B : Option (Option D)} {x y : D} (h1 : A = some (some x)) (h2 : B = some (some y)) : [A, B] = [x, y].map (fun d => some (some d)) := by rw [h1, h2]; rfl
@[simp] theorem ne_row0 (r : List Int) : cmD .ne (rowD r) (.tuple []) = some (.bool (!decide (r = []))) := ne_row r []
@[simp] theorem eq_row0 (r : List Int) : cmD .eq (rowD r) (.tuple []) = some (.bool (decide (r = []))) := eq_row r []
/-- values that a def refuses with one error -/
def refusesB (f : D → Res) (x : Str) (odds : List D) : Bool := odds.all fun d => match f d with
  | .ex y => y == x
  | _ => false
theorem refuses_ok {f : D → Res} {x : Str} {odds : List D} (h : refusesB f x odds = true) {d : D} (hd : d ∈ odds) : f d = .ex x := by
  have := List.all_eq_true.mp h d hd
  split at this
  · rename_i y e
    rw [e, beq_iff_eq.mp this]
  · cases this
def badOrders : List D := match g__law_bad_orders [] with
  | .ok (.list ds) => ds
  | _ => []
theorem bad_orders : g__law_bad_orders [] = .ok (.list badOrders) := by kernel_rfl
theorem bad_need : refusesB (fun d => g_need_order [d]) "InvalidOrder" badOrders = true := by decide +kernel
theorem need_bad {d : D} (h : d ∈ badOrders) : g_need_order [d] = .ex "InvalidOrder" := refuses_ok bad_need h
end EN

/-! == CR == -/
set_option Elab.async false
set_option linter.all false
set_option maxRecDepth 100000
set_option maxHeartbeats 4000000
set_option autoImplicit false
/-! CR: a term whose parts without cells are reckoned. -/
namespace EN
open PySem PySem.Spec PyProof.Rows L2 PySem.W
def M.pu {α : Type} (p : PF α) : M α := ⟨fun ρ S Q E => (p.f ρ).run S Q E, fun {ρ S Q Q' E E'} q e h => by
  cases r : p.f ρ with
  | ok a => rw [r] at h; exact q _ _ h
  | ex x => rw [r] at h; exact e _ _ h
  | no => rw [r] at h; exact h⟩
@[simp] theorem M.pu_run {α : Type} (p : PF α) (ρ : Lo) (S : Sto) (Q : α → Sto → Prop) (E : QX) : (M.pu p).run ρ S Q E = (p.f ρ).run S Q E := rfl
@[simp] theorem R.run_ok {α : Type} (a : α) (S : Sto) (Q : α → Sto → Prop) (E : QX) : (R.ok a).run S Q E = Q a S := rfl
@[simp] theorem R.run_ex {α : Type} (x : Str) (S : Sto) (Q : α → Sto → Prop) (E : QX) : (R.ex x : R α).run S Q E = E x S := rfl
def Ref {α : Type} (m m' : M α) : Prop := ∀ (ρ : Lo) (S : Sto) (Q : α → Sto → Prop) (E : QX), m'.run ρ S Q E → m.run ρ S Q E
namespace Ref
variable {α β : Type} {ma mb mc na nb nc : M D} {t u : M (List D)} {x y x' y' : M Bool}
theorem refl {m : M α} : Ref m m := fun _ _ _ _ h => h
theorem pu {m : M α} {p : PF α} (s : Sim m p) : Ref m (M.pu p) := s
theorem bind {m m' : M α} {f f' : α → M β} (h1 : Ref m m') (h2 : ∀ a, Ref (f a) (f' a)) : Ref (m.bind f) (m'.bind f') := fun ρ S Q E h =>
  m.mono (fun a S1 k => h2 a ρ S1 Q E k) (fun _ _ k => k) (h1 ρ S _ E h)
theorem cond {k : Bool} {m n p q : M α} (h1 : Ref m p) (h2 : Ref n q) : Ref (_root_.cond k m n) (_root_.cond k p q) := by
  cases k
  · exact h2
  · exact h1
theorem op2 {r1 r2 : Bool} {g : D → D → Option D} (h1 : Ref ma na) (h2 : Ref mb nb) : Ref (M.op2 r1 r2 g ma mb) (M.op2 r1 r2 g na nb) := h1.bind fun _ => h2.bind fun _ => refl
theorem bool (h : Ref ma na) : Ref (M.bool ma) (M.bool na) := h.bind fun _ => refl
theorem ite {m n p q : M α} (h : Ref x x') (h1 : Ref m p) (h2 : Ref n q) : Ref (M.ite x m n) (M.ite x' p q) := h.bind fun _ => cond h1 h2
theorem chain {g g' : D → D → Option D} (h1 : Ref ma na) (h2 : Ref mb nb) (h3 : Ref mc nc) : Ref (M.chain g g' ma mb mc) (M.chain g g' na nb nc) := h1.bind fun _ => h2.bind fun _ => refl.bind fun _ => cond (h3.bind fun _ => refl) refl
theorem andB (h1 : Ref x x') (h2 : Ref y y') : Ref (M.andB x y) (M.andB x' y') := ite h1 h2 refl
theorem orB (h1 : Ref x x') (h2 : Ref y y') : Ref (M.orB x y) (M.orB x' y') := ite h1 refl h2
theorem notB (h1 : Ref x x') : Ref (M.notB x) (M.notB x') := h1.bind fun _ => refl
theorem andV (h1 : Ref ma na) (h2 : Ref mb nb) : Ref (M.andV ma mb) (M.andV na nb) := ite h1.bool h2 refl
theorem orV (h1 : Ref ma na) (h2 : Ref mb nb) : Ref (M.orV ma mb) (M.orV na nb) := ite h1.bool refl h2
theorem notV (h1 : Ref ma na) : Ref (M.notV ma) (M.notV na) := h1.bool.bind fun _ => refl
theorem cons (h1 : Ref ma na) (h2 : Ref t u) : Ref (M.cons ma t) (M.cons na u) := h1.bind fun _ => h2.bind fun _ => refl
theorem tup (h : Ref t u) : Ref (M.tup t) (M.tup u) := h.bind fun _ => refl
theorem lst (h : Ref t u) : Ref (M.lst t) (M.lst u) := h.bind fun _ => refl
theorem items (h : Ref ma na) : Ref (M.items ma) (M.items na) := h.bind fun _ => refl
theorem rng1 (h : Ref t u) : Ref (M.rng1 t) (M.rng1 u) := h.bind fun _ => refl
theorem rng2 (h : Ref t u) : Ref (M.rng2 t) (M.rng2 u) := h.bind fun _ => refl
theorem zip (h : Ref t u) : Ref (M.zip t) (M.zip u) := h.bind fun _ => refl
theorem call1 {r : Bool} {g : D → Option D} (h : Ref ma na) : Ref (M.call1 r g ma) (M.call1 r g na) := h.bind fun _ => refl
theorem callN {g : List D → Option D} (h : Ref t u) : Ref (M.callN g t) (M.callN g u) := h.bind fun _ => refl
theorem somI (h : Ref ma na) : Ref (M.somI ma) (M.somI na) := h.bind fun _ => refl
theorem slice {r : Bool} {l1 l2 q1 q2 : M (Option Int)} (h : Ref ma na) (h1 : Ref l1 q1) (h2 : Ref l2 q2) : Ref (M.slice r ma l1 l2) (M.slice r na q1 q2) := h.bind fun _ => h1.bind fun _ => h2.bind fun _ => refl
theorem meth {T : String} {r : Bool} {g : D → D → Option D} (h1 : Ref ma na) (h2 : Ref mb nb) : Ref (M.meth T r g ma mb) (M.meth T r g na nb) := h1.bind fun _ => refl.bind fun _ => h2.bind fun _ => refl
theorem rg1 (h : Ref ma na) : Ref (M.rg1 ma) (M.rg1 na) := h.bind fun _ => refl
theorem rg2 (h1 : Ref ma na) (h2 : Ref mb nb) : Ref (M.rg2 ma mb) (M.rg2 na nb) := h1.bind fun _ => h2.bind fun _ => refl
theorem lstV (h : Ref t u) : Ref (M.lstV t) (M.lstV u) := h.bind fun _ => refl
theorem tupV (h : Ref t u) : Ref (M.tupV t) (M.tupV u) := h.bind fun _ => refl
theorem call {n : Nat} {c : C2} (h : Ref t u) : Ref (M.call n c t) (M.call n c u) := h.bind fun _ => refl
theorem listC (h : Ref ma na) : Ref (M.listC ma) (M.listC na) := h.bind fun _ => refl
theorem mk (h : Ref t u) : Ref (t.bind M.mkc) (u.bind M.mkc) := h.bind fun _ => refl
theorem append (h1 : Ref ma na) (h2 : Ref mb nb) : Ref (M.append ma mb) (M.append na nb) := h1.bind fun _ => fun ρ S Q E ⟨a, ds, e1, e2, h⟩ => ⟨a, ds, e1, e2, h2 _ _ _ _ h⟩
theorem popAt (h1 : Ref ma na) (h2 : Ref mb nb) : Ref (M.popAt ma mb) (M.popAt na nb) := h1.bind fun _ => fun ρ S Q E ⟨a, ds, e1, e2, h⟩ => ⟨a, ds, e1, e2, h2 _ _ _ _ h⟩
theorem callv {i n : Nat} {G : D → C2 → Prop} (h : Ref t u) : Ref (M.callv i n G t) (M.callv i n G u) := fun ρ S Q E ⟨d, c, h1, h2, k⟩ => ⟨d, c, h1, h2, h _ _ _ _ k⟩
theorem lam {n len : Nat} {js : List Nat} {b : M D} {cG : C2 → Addr → C2} (h : Ref t u) : Ref (M.lam n len js b cG t) (M.lam n len js b cG u) := fun ρ S Q E ⟨caps, h1, k⟩ => ⟨caps, h1, h _ _ _ _ k⟩
theorem ixS {F : Fx} {i : Nat} (h : Ref ma na) : Ref (M.ixS F i ma) (M.ixS F i na) := fun ρ S Q E ⟨a, ns, h1, h2, k⟩ => ⟨a, ns, h1, h2, h _ _ _ _ k⟩
theorem lcG {vs : List Nat} {tg : Tg} (h1 : Ref x x') (h2 : Ref ma na) {K : List D → Sto → Prop} : ∀ {ds acc : List D} {ρ : Lo} {S : Sto}, EN.lcG vs tg x' na K ds acc ρ S → EN.lcG vs tg x ma K ds acc ρ S
  | [], _, _, _, h => h
  | d :: ds, acc, ρ, S, ⟨ρ', e, h⟩ => ⟨ρ', e, x.mono (fun k S1 q => by
      cases k with
      | false => exact lcG h1 h2 (ds := ds) q
      | true => exact ma.mono (fun y S2 q => ⟨q.1, lcG h1 h2 (ds := ds) q.2⟩) (fun _ _ z => z) (h2 _ _ _ _ q)) (fun _ _ z => z) (h1 _ _ _ _ h)⟩
theorem lc {mi mi' : M (List D)} {vs : List Nat} {tg : Tg} (h0 : Ref mi mi') (h1 : Ref x x') (h2 : Ref ma na) : Ref (M.lc mi vs tg x ma) (M.lc mi' vs tg x' na) := fun ρ S Q E h =>
  mi.mono (fun ds S1 k => lcG h1 h2 k) (fun _ _ z => z) (h0 _ _ _ _ h)
theorem lcG2 {vs vs1 : List Nat} {tg tg1 : Tg} {mi mi' : M (List D)} (h0 : Ref mi mi') (h1 : Ref x x') (h2 : Ref ma na) {K : List D → Sto → Prop} : ∀ {ds acc : List D} {ρ : Lo} {S : Sto}, EN.lcG2 vs tg mi' vs1 tg1 x' na K ds acc ρ S → EN.lcG2 vs tg mi vs1 tg1 x ma K ds acc ρ S
  | [], _, _, _, h => h
  | d :: ds, acc, ρ, S, ⟨ρ', e, h⟩ => ⟨ρ', e, mi.mono (fun es S1 q => lcG h1 h2 (lcG_mono (fun acc' S2 q => lcG2 h0 h1 h2 (ds := ds) q) q)) (fun _ _ z => z) (h0 _ _ _ _ h)⟩
theorem lc2 {mi mi' mj mj' : M (List D)} {vs vs1 : List Nat} {tg tg1 : Tg} (h : Ref mi mi') (h0 : Ref mj mj') (h1 : Ref x x') (h2 : Ref ma na) : Ref (M.lc2 mi vs tg mj vs1 tg1 x ma) (M.lc2 mi' vs tg mj' vs1 tg1 x' na) := fun ρ S Q E k =>
  mi.mono (fun ds S1 k => lcG2 h0 h1 h2 k) (fun _ _ z => z) (h _ _ _ _ k)
end Ref
def RefS (m m' : MS) : Prop := ∀ (ρ : Lo) (S : Sto) (nx : Lo → Sto → Prop) (rt : D → Sto → Prop) (xs : Str → Lo → Sto → Prop), m'.run ρ S nx rt xs → m.run ρ S nx rt xs
namespace RefS
variable {a b p q : MS} {m r : M D} {c k : M Bool} {t u : M (List D)}
theorem refl : RefS a a := fun _ _ _ _ _ h => h
theorem seq (h1 : RefS a p) (h2 : RefS b q) : RefS (a.seq b) (p.seq q) := fun ρ S nx rt xs h => a.mono (fun ρ1 S1 k => h2 _ _ _ _ _ k) (fun _ _ k => k) (fun _ _ _ k => k) (h1 _ _ _ _ _ h)
theorem ret (h : Ref m r) : RefS (.ret m) (.ret r) := fun ρ S nx rt xs k => h _ _ _ _ k
theorem asg {tg : Tg} (h : Ref m r) : RefS (.asg m tg) (.asg r tg) := fun ρ S nx rt xs k => h _ _ _ _ k
theorem par {i j : Nat} (h : Ref t u) : RefS (.par t i j) (.par u i j) := fun ρ S nx rt xs k => h _ _ _ _ k
theorem expr (h : Ref m r) : RefS (.expr m) (.expr r) := fun ρ S nx rt xs k => h _ _ _ _ k
theorem ifS (h : Ref c k) (h1 : RefS a p) (h2 : RefS b q) : RefS (.ifS c a b) (.ifS k p q) := fun ρ S nx rt xs z => c.mono (fun y S1 z => by
  cases y with
  | false => exact h2 _ _ _ _ _ z
  | true => exact h1 _ _ _ _ _ z) (fun _ _ z => z) (h _ _ _ _ z)
theorem forL {tg : Tg} (h : RefS b q) {nx : Lo → Sto → Prop} {rt : D → Sto → Prop} {xs : Str → Lo → Sto → Prop} : ∀ {ds : List D} {ρ : Lo} {S : Sto}, MS.forL tg q nx rt xs ds ρ S → MS.forL tg b nx rt xs ds ρ S
  | [], _, _, z => z
  | d :: ds, ρ, S, ⟨ρ', e, z⟩ => ⟨ρ', e, b.mono (fun ρ2 S2 k => forL h (ds := ds) k) (fun _ _ k => k) (fun _ _ _ k => k) (h _ _ _ _ _ z)⟩
theorem forS {tg : Tg} (h0 : Ref t u) (h : RefS b q) : RefS (.forS t tg b) (.forS u tg q) := fun ρ S nx rt xs z => t.mono (fun ds S1 k => forL h k) (fun _ _ k => k) (h0 _ _ _ _ z)
theorem whileL (h0 : Ref c k) (h : RefS b q) {nx : Lo → Sto → Prop} {rt : D → Sto → Prop} {xs : Str → Lo → Sto → Prop} : ∀ {n : Nat} {ρ : Lo} {S : Sto}, MS.whileL k q nx rt xs n ρ S → MS.whileL c b nx rt xs n ρ S
  | 0, _, _, z => z
  | n + 1, ρ, S, z => c.mono (fun y S1 z => by
      cases y with
      | false => exact z
      | true => exact b.mono (fun ρ2 S2 z => whileL h0 h (n := n) z) (fun _ _ z => z) (fun _ _ _ z => z) (h _ _ _ _ _ z)) (fun _ _ z => z) (h0 _ _ _ _ z)
theorem whileS (h0 : Ref c k) (h : RefS b q) : RefS (.whileS c b) (.whileS k q) := fun ρ S nx rt xs ⟨n, z⟩ => ⟨n, whileL h0 h z⟩
theorem setIx {mo mk ro rk : M D} (h : Ref m r) (h1 : Ref mo ro) (h2 : Ref mk rk) : RefS (.setIx m mo mk) (.setIx r ro rk) := fun ρ S nx rt xs z =>
  m.mono (fun v S1 z => mo.mono (fun o S2 z => h2 _ _ _ _ z) (fun _ _ z => z) (h1 _ _ _ _ z)) (fun _ _ z => z) (h _ _ _ _ z)
end RefS
end EN

/-! == CD8 == -/
set_option Elab.async false
set_option linter.all false
set_option maxRecDepth 100000
set_option maxHeartbeats 4000000
set_option autoImplicit false
/-! CD8: written orders. -/
namespace EN
open PySem PySem.Spec PyProof.Rows L2 PySem.W
def goodB (n : Int) (ps : List IP) : Bool :=
  decide (1 ≤ n) && (decide (n ≤ 6) && ((ps.all fun p => decide (0 ≤ p.1) && (decide (p.1 < n) && (decide (0 ≤ p.2) && (decide (p.2 < n) && !decide (p.1 = p.2))))) && (risingB ps && ps.all fun p => ps.all fun q => !decide (q.1 = p.2) || decide ((p.1, q.2) ∈ ps))))
theorem asc_of_rising : ∀ {ps : List IP}, risingB ps = true → Asc ps
  | [], _ => List.Pairwise.nil
  | [p], _ => List.pairwise_singleton _ _
  | p :: q :: ps, h => by
    unfold risingB at h
    simp only [List.tail_cons, List.zip_cons_cons, List.all_cons, Bool.and_eq_true] at h
    have ih : Asc (q :: ps) := asc_of_rising (ps := q :: ps) (by unfold risingB; simpa using h.2)
    refine List.pairwise_cons.mpr ⟨fun x hx => ?_, ih⟩
    rcases List.mem_cons.mp hx with rfl | hx
    · exact h.1
    · exact ltP_lin.trans _ _ _ h.1 ((List.pairwise_cons.mp ih).1 x hx)
theorem goodB_ok {n : Int} {ps : List IP} (h : goodB n ps = true) : Good n ps := by
  unfold goodB at h
  simp only [Bool.and_eq_true, decide_eq_true_eq, List.all_eq_true, Bool.not_eq_true', decide_eq_false_iff_not, Bool.or_eq_true] at h
  obtain ⟨h1, h2, h3, h4, h5⟩ := h
  exact ⟨h1, h2, fun p hp => ⟨(h3 p hp).1, (h3 p hp).2.1, (h3 p hp).2.2.1, (h3 p hp).2.2.2.1⟩, fun p hp => (h3 p hp).2.2.2.2, asc_of_rising h4, fun a b c q1 q2 => by
    rcases h5 (a, b) q1 (b, c) q2 with z | z
    · exact absurd rfl z
    · exact z⟩
theorem srtP_sortU {ps : List IP} (nd : ps.Nodup) : srtP ps = sortU ltP ps := sortU_unique lin_ltP (srtP_asc nd) fun _ => srtP_mem
/-- a sorted list of written pairs -/
theorem srtP_of {ps qs : List IP} (h : qs = sortU ltP ps) (nd : ps.Nodup) : srtP ps = qs := by rw [h]; exact srtP_sortU nd
end EN

/-! == Q06 == -/
set_option Elab.async false
set_option linter.all false
set_option maxRecDepth 100000
set_option maxHeartbeats 4000000
set_option autoImplicit false
/-! Q06: the law's term, its parts without cells reckoned (printed by gen.py). -/
namespace K06
open PySem PySem.Spec PyProof.Rows L2 EN
def nm (x : Str) : Option Str := ([("InvalidOrder", "order value"), ("InvalidLot", "lot value"), ("TooMany", "many value")] : List (Str × Str)).lookup x
abbrev lawM (F : Fx) : MS := m_law F (cVat F) cOrder (.pure g_turned) cBothL cUnder (.pure g__law_bad_orders) (.pure gKnown) (.pure g_stacked) (.pure g_beside) (.pure g_part) (cAll nm (.pure g_turned) (fnD "turned")) (gTold nm) (gAll nm) (gErr nm) (gAny [("stacked", (.pure g_stacked)), ("beside", (.pure g_beside)), ("part", (.pure g_part))])
def lawQ (F : Fx) : MS :=
  (.seq (.forS (.rng1 (.cons (.callN maxD2 (.cons (.pu (.val (.int 5))) (.cons (.callN minD2 (.cons (.pu (.val (.int 11))) (.cons (.lenS F 0) (.pu .nil)))) (.pu .nil)))) (.pu .nil))) (tgN 1) (.seq (.asg (.call 2 (cVat F) (.pu (.cons (.var 0) (.cons (.var 1) .nil)))) (tgN 2))
    (.seq (.forS (.pu (.rng1 (.cons (.val (.int 4)) .nil))) (tgN 3) (.seq (.asg (.tup (.cons (.call 2 cOrder (.pu (.cons (.var 2) (.cons (.val (.int 6)) .nil)))) (.cons (.call 2 cOrder (.pu (.cons (.var 2) (.cons (.val (.int 4)) .nil)))) (.pu .nil)))) (tgT [14, 15]))
    (.seq (.ifS (.pu (.bool (.op2 false false (cmD .ne) (.call 1 g_turned (.cons (.var 14) .nil)) (.tup (.cons (.op2 false false ixD (.var 14) (.val (.int 0))) (.cons (.call1 false tupleD (.call1 false sortedD (.lc (.items (.op2 false false ixD (.var 14) (.val (.int 1)))) [17] (tgN 17) (.val true) (.tup (.cons (.op2 false false ixD (.var 17) (.val (.int 1))) (.cons (.op2 false false ixD (.var 17) (.val (.int 0))) .nil)))))) .nil)))))) (.ret (.pu (.val (.bool false)))) .skip)
    (.seq (.forS (.pu (.items (.lst (.cons (.tup (.cons (.val (fnD "stacked")) (.cons (.val (.bool true)) .nil))) (.cons (.tup (.cons (.val (fnD "beside")) (.cons (.val (.bool false)) .nil))) .nil))))) (tgT [4, 16]) (.seq (.asg (.ite (.pu (.bool (.op2 false false (cmD .lt) (.op2 false false (op2 .add) (.op2 false false ixD (.var 14) (.val (.int 0))) (.op2 false false ixD (.var 15) (.val (.int 0)))) (.val (.int 7))))) (.tup (.cons (.call 3 cBothL (.pu (.cons (.var 14) (.cons (.var 15) (.cons (.var 16) .nil))))) (.pu (.cons (.val (.str "")) .nil)))) (.pu (.tup (.cons (.val .none) (.cons (.val (.str "many value")) .nil))))) (tgN 13))
    (.ifS (.bool (.op2 false false (cmD .ne) (.lam 0 3 [4, 14, 15] (.callv 0 2 (gAny [("stacked", (.pure g_stacked)), ("beside", (.pure g_beside)), ("part", (.pure g_part))]) (.cons (.var 1) (.cons (.var 2) .nil))) (gTold nm) (.pu .nil)) (.pu (.var 13)))) (.ret (.pu (.val (.bool false)))) .skip)))
    (.seq (.asg (.call1 false tupleD (.lc (.pu (.rng1 (.cons (.op2 false false ixD (.var 14) (.val (.int 0))) .nil))) [18] (tgN 18) (.bool (.op2 false false (cmD .eq) (.call 2 cUnder (.pu (.cons (.var 2) (.cons (.val (.int 2)) .nil)))) (.pu (.val (.int 0))))) (.pu (.var 18)))) (tgN 11))
    (.seq (.asg (.pu (.lc (.items (.op2 false false ixD (.var 14) (.val (.int 1)))) [17] (tgN 17) (.andB (.bool (.op2 false false (cmD .inn) (.op2 false false ixD (.var 17) (.val (.int 0))) (.var 11))) (.bool (.op2 false false (cmD .inn) (.op2 false false ixD (.var 17) (.val (.int 1))) (.var 11)))) (.tup (.cons (.meth "seq" false indexD (.var 11) (.op2 false false ixD (.var 17) (.val (.int 0)))) (.cons (.meth "seq" false indexD (.var 11) (.op2 false false ixD (.var 17) (.val (.int 1)))) .nil))))) (tgN 12))
    (.seq (.asg (.pu (.ite (.bool (.op2 false false (cmD .ne) (.var 11) (.tup .nil))) (.tup (.cons (.tup (.cons (.call1 false lenD (.var 11)) (.cons (.call1 false tupleD (.call1 false sortedD (.var 12))) .nil))) (.cons (.val (.str "")) .nil))) (.tup (.cons (.val .none) (.cons (.val (.str "lot value")) .nil))))) (tgN 13))
    (.ifS (.bool (.op2 false false (cmD .ne) (.lam 0 2 [14, 11] (.call 2 (.pure g_part) (.cons (.var 0) (.cons (.var 1) .nil))) (gTold nm) (.pu .nil)) (.pu (.var 13)))) (.ret (.pu (.val (.bool false)))) .skip))))))))
    (.seq (.forS (.pu (.items (.tup (.cons (.val (fnD "stacked")) (.cons (.val (fnD "beside")) (.cons (.val (fnD "part")) .nil)))))) (tgN 4) (.ifS (.notB (.bool (.lam 2 2 [4] (.callv 1 2 (gAny [("stacked", (.pure g_stacked)), ("beside", (.pure g_beside)), ("part", (.pure g_part))]) (.cons (.var 0) (.cons (.val .none) .nil))) (gAll nm) (.cons (.call0 (.pure g__law_bad_orders)) (.pu (.cons (.val (.str "order value")) .nil)))))) (.ret (.pu (.val (.bool false)))) .skip))
    (.seq (.forS (.pu (.items (.tup (.cons (.val (fnD "stacked")) (.cons (.val (fnD "beside")) .nil))))) (tgN 4) (.ifS (.notB (.bool (.lam 2 3 [4, 14] (.callv 1 2 (gAny [("stacked", (.pure g_stacked)), ("beside", (.pure g_beside)), ("part", (.pure g_part))]) (.cons (.var 2) (.cons (.var 0) .nil))) (gAll nm) (.cons (.call0 (.pure g__law_bad_orders)) (.pu (.cons (.val (.str "order value")) .nil)))))) (.ret (.pu (.val (.bool false)))) .skip))
    (.seq (.ifS (.notB (.bool (.call 3 (cAll nm (.pure g_turned) (fnD "turned")) (.cons (.pu (.val (fnD "turned"))) (.cons (.call0 (.pure g__law_bad_orders)) (.pu (.cons (.val (.str "order value")) .nil))))))) (.ret (.pu (.val (.bool false)))) .skip)
    (.ifS (.notB (.bool (.lam 2 2 [14] (.call 2 (.pure g_part) (.cons (.var 1) (.cons (.var 0) .nil))) (gAll nm) (.pu (.cons (.lst (.cons (.val .none) (.cons (.lst (.cons (.val (.int 0)) .nil)) (.cons (.tup (.cons (.val (.int 0)) (.cons (.val (.int 0)) .nil))) (.cons (.tup (.cons (.val (.int 1)) (.cons (.val (.int 0)) .nil))) (.cons (.tup (.cons (.op2 false false ixD (.var 14) (.val (.int 0))) .nil)) (.cons (.tup (.cons (.val (.bool true)) .nil)) (.cons (.val (.str "0")) (.cons (.val (.int 0)) .nil))))))))) (.cons (.val (.str "lot value")) .nil)))))) (.ret (.pu (.val (.bool false)))) .skip)))))))
    (.seq (.asg (.call0 (.pure gKnown)) (tgL [5, 6, 7, 8, 9, 10]))
    (.seq (.ifS (.pu (.orB (.bool (.op2 false false (cmD .ne) (.call 1 g_turned (.cons (.var 7) .nil)) (.tup (.cons (.val (.int 3)) (.cons (.tup (.cons (.tup (.cons (.val (.int 1)) (.cons (.val (.int 0)) .nil))) (.cons (.tup (.cons (.val (.int 2)) (.cons (.val (.int 0)) .nil))) .nil))) .nil))))) (.bool (.op2 false false (cmD .ne) (.call 2 g_stacked (.cons (.var 7) (.cons (.tup (.cons (.val (.int 1)) (.cons (.tup .nil) .nil))) .nil))) (.tup (.cons (.val (.int 4)) (.cons (.tup (.cons (.tup (.cons (.val (.int 0)) (.cons (.val (.int 1)) .nil))) (.cons (.tup (.cons (.val (.int 0)) (.cons (.val (.int 2)) .nil))) (.cons (.tup (.cons (.val (.int 0)) (.cons (.val (.int 3)) .nil))) (.cons (.tup (.cons (.val (.int 1)) (.cons (.val (.int 3)) .nil))) (.cons (.tup (.cons (.val (.int 2)) (.cons (.val (.int 3)) .nil))) .nil)))))) .nil))))))) (.ret (.pu (.val (.bool false)))) .skip)
    (.seq (.ifS (.pu (.orB (.bool (.op2 false false (cmD .ne) (.call 2 g_beside (.cons (.tup (.cons (.val (.int 1)) (.cons (.tup .nil) .nil))) (.cons (.tup (.cons (.val (.int 2)) (.cons (.tup (.cons (.tup (.cons (.val (.int 0)) (.cons (.val (.int 1)) .nil))) .nil)) .nil))) .nil))) (.tup (.cons (.val (.int 3)) (.cons (.tup (.cons (.tup (.cons (.val (.int 1)) (.cons (.val (.int 2)) .nil))) .nil)) .nil))))) (.orB (.bool (.op2 false false (cmD .ne) (.call 2 g_part (.cons (.var 8) (.cons (.tup (.cons (.val (.int 0)) (.cons (.val (.int 2)) (.cons (.val (.int 3)) .nil)))) .nil))) (.tup (.cons (.val (.int 3)) (.cons (.tup (.cons (.tup (.cons (.val (.int 0)) (.cons (.val (.int 1)) .nil))) .nil)) .nil))))) (.bool (.op2 false false (cmD .ne) (.call 2 g_part (.cons (.var 9) (.cons (.tup (.cons (.val (.int 0)) (.cons (.val (.int 5)) .nil))) .nil))) (.tup (.cons (.val (.int 2)) (.cons (.tup (.cons (.tup (.cons (.val (.int 0)) (.cons (.val (.int 1)) .nil))) .nil)) .nil)))))))) (.ret (.pu (.val (.bool false)))) .skip)
    (.ret (.andV (.op2 false false (cmD .eq) (.lam 0 2 [8, 5] (.call 2 (.pure g_stacked) (.cons (.var 0) (.cons (.var 1) .nil))) (gErr nm) (.pu .nil)) (.pu (.val (.str "many value")))) (.pu (.op2 false false (cmD .eq) (.call 2 g_stacked (.cons (.tup (.cons (.val (.int 1)) (.cons (.tup .nil) .nil))) (.cons (.tup (.cons (.val (.int 1)) (.cons (.tup .nil) .nil))) .nil))) (.tup (.cons (.val (.int 2)) (.cons (.tup (.cons (.tup (.cons (.val (.int 0)) (.cons (.val (.int 1)) .nil))) .nil)) .nil)))))))))))
theorem law_ref (F : Fx) : RefS (lawM F) (lawQ F) :=
  (RefS.seq (RefS.forS (Ref.rng1 (Ref.cons (Ref.callN (Ref.cons (Ref.pu Sim.val) (Ref.cons (Ref.callN (Ref.cons (Ref.pu Sim.val) (Ref.cons Ref.refl (Ref.pu Sim.nil)))) (Ref.pu Sim.nil)))) (Ref.pu Sim.nil))) (RefS.seq (RefS.asg (Ref.call (Ref.pu (Sim.cons Sim.var (Sim.cons Sim.var Sim.nil))))) (RefS.seq (RefS.forS (Ref.pu (Sim.rng1 (Sim.cons Sim.val Sim.nil))) (RefS.seq (RefS.asg (Ref.tup (Ref.cons (Ref.call (Ref.pu (Sim.cons Sim.var (Sim.cons Sim.val Sim.nil)))) (Ref.cons (Ref.call (Ref.pu (Sim.cons Sim.var (Sim.cons Sim.val Sim.nil)))) (Ref.pu Sim.nil))))) (RefS.seq (RefS.ifS (Ref.pu (Sim.bool (Sim.op2 (Sim.call (Sim.cons Sim.var Sim.nil)) (Sim.tup (Sim.cons (Sim.op2 Sim.var Sim.val) (Sim.cons (Sim.call1 (Sim.call1 (Sim.lc (Sim.items (Sim.op2 Sim.var Sim.val)) Sim.val (Sim.tup (Sim.cons (Sim.op2 Sim.var Sim.val) (Sim.cons (Sim.op2 Sim.var Sim.val) Sim.nil)))))) Sim.nil)))))) (RefS.ret (Ref.pu Sim.val)) RefS.refl) (RefS.seq (RefS.forS (Ref.pu (Sim.items (Sim.lst (Sim.cons (Sim.tup (Sim.cons Sim.val (Sim.cons Sim.val Sim.nil))) (Sim.cons (Sim.tup (Sim.cons Sim.val (Sim.cons Sim.val Sim.nil))) Sim.nil))))) (RefS.seq (RefS.asg (Ref.ite (Ref.pu (Sim.bool (Sim.op2 (Sim.op2 (Sim.op2 Sim.var Sim.val) (Sim.op2 Sim.var Sim.val)) Sim.val))) (Ref.tup (Ref.cons (Ref.call (Ref.pu (Sim.cons Sim.var (Sim.cons Sim.var (Sim.cons Sim.var Sim.nil))))) (Ref.pu (Sim.cons Sim.val Sim.nil)))) (Ref.pu (Sim.tup (Sim.cons Sim.val (Sim.cons Sim.val Sim.nil)))))) (RefS.ifS (Ref.bool (Ref.op2 (Ref.lam (Ref.pu Sim.nil)) (Ref.pu Sim.var))) (RefS.ret (Ref.pu Sim.val)) RefS.refl))) (RefS.seq (RefS.asg (Ref.call1 (Ref.lc (Ref.pu (Sim.rng1 (Sim.cons (Sim.op2 Sim.var Sim.val) Sim.nil))) (Ref.bool (Ref.op2 (Ref.call (Ref.pu (Sim.cons Sim.var (Sim.cons Sim.val Sim.nil)))) (Ref.pu Sim.val))) (Ref.pu Sim.var)))) (RefS.seq (RefS.asg (Ref.pu (Sim.lc (Sim.items (Sim.op2 Sim.var Sim.val)) (Sim.andB (Sim.bool (Sim.op2 (Sim.op2 Sim.var Sim.val) Sim.var)) (Sim.bool (Sim.op2 (Sim.op2 Sim.var Sim.val) Sim.var))) (Sim.tup (Sim.cons (Sim.meth Sim.var (Sim.op2 Sim.var Sim.val)) (Sim.cons (Sim.meth Sim.var (Sim.op2 Sim.var Sim.val)) Sim.nil)))))) (RefS.seq (RefS.asg (Ref.pu (Sim.ite (Sim.bool (Sim.op2 Sim.var (Sim.tup Sim.nil))) (Sim.tup (Sim.cons (Sim.tup (Sim.cons (Sim.call1 Sim.var) (Sim.cons (Sim.call1 (Sim.call1 Sim.var)) Sim.nil))) (Sim.cons Sim.val Sim.nil))) (Sim.tup (Sim.cons Sim.val (Sim.cons Sim.val Sim.nil)))))) (RefS.ifS (Ref.bool (Ref.op2 (Ref.lam (Ref.pu Sim.nil)) (Ref.pu Sim.var))) (RefS.ret (Ref.pu Sim.val)) RefS.refl)))))))) (RefS.seq (RefS.forS (Ref.pu (Sim.items (Sim.tup (Sim.cons Sim.val (Sim.cons Sim.val (Sim.cons Sim.val Sim.nil)))))) (RefS.ifS (Ref.notB (Ref.bool (Ref.lam (Ref.cons Ref.refl (Ref.pu (Sim.cons Sim.val Sim.nil)))))) (RefS.ret (Ref.pu Sim.val)) RefS.refl)) (RefS.seq (RefS.forS (Ref.pu (Sim.items (Sim.tup (Sim.cons Sim.val (Sim.cons Sim.val Sim.nil))))) (RefS.ifS (Ref.notB (Ref.bool (Ref.lam (Ref.cons Ref.refl (Ref.pu (Sim.cons Sim.val Sim.nil)))))) (RefS.ret (Ref.pu Sim.val)) RefS.refl)) (RefS.seq (RefS.ifS (Ref.notB (Ref.bool (Ref.call (Ref.cons (Ref.pu Sim.val) (Ref.cons Ref.refl (Ref.pu (Sim.cons Sim.val Sim.nil))))))) (RefS.ret (Ref.pu Sim.val)) RefS.refl) (RefS.ifS (Ref.notB (Ref.bool (Ref.lam (Ref.pu (Sim.cons (Sim.lst (Sim.cons Sim.val (Sim.cons (Sim.lst (Sim.cons Sim.val Sim.nil)) (Sim.cons (Sim.tup (Sim.cons Sim.val (Sim.cons Sim.val Sim.nil))) (Sim.cons (Sim.tup (Sim.cons Sim.val (Sim.cons Sim.val Sim.nil))) (Sim.cons (Sim.tup (Sim.cons (Sim.op2 Sim.var Sim.val) Sim.nil)) (Sim.cons (Sim.tup (Sim.cons Sim.val Sim.nil)) (Sim.cons Sim.val (Sim.cons Sim.val Sim.nil))))))))) (Sim.cons Sim.val Sim.nil)))))) (RefS.ret (Ref.pu Sim.val)) RefS.refl))))))) (RefS.seq (RefS.asg Ref.refl) (RefS.seq (RefS.ifS (Ref.pu (Sim.orB (Sim.bool (Sim.op2 (Sim.call (Sim.cons Sim.var Sim.nil)) (Sim.tup (Sim.cons Sim.val (Sim.cons (Sim.tup (Sim.cons (Sim.tup (Sim.cons Sim.val (Sim.cons Sim.val Sim.nil))) (Sim.cons (Sim.tup (Sim.cons Sim.val (Sim.cons Sim.val Sim.nil))) Sim.nil))) Sim.nil))))) (Sim.bool (Sim.op2 (Sim.call (Sim.cons Sim.var (Sim.cons (Sim.tup (Sim.cons Sim.val (Sim.cons (Sim.tup Sim.nil) Sim.nil))) Sim.nil))) (Sim.tup (Sim.cons Sim.val (Sim.cons (Sim.tup (Sim.cons (Sim.tup (Sim.cons Sim.val (Sim.cons Sim.val Sim.nil))) (Sim.cons (Sim.tup (Sim.cons Sim.val (Sim.cons Sim.val Sim.nil))) (Sim.cons (Sim.tup (Sim.cons Sim.val (Sim.cons Sim.val Sim.nil))) (Sim.cons (Sim.tup (Sim.cons Sim.val (Sim.cons Sim.val Sim.nil))) (Sim.cons (Sim.tup (Sim.cons Sim.val (Sim.cons Sim.val Sim.nil))) Sim.nil)))))) Sim.nil))))))) (RefS.ret (Ref.pu Sim.val)) RefS.refl) (RefS.seq (RefS.ifS (Ref.pu (Sim.orB (Sim.bool (Sim.op2 (Sim.call (Sim.cons (Sim.tup (Sim.cons Sim.val (Sim.cons (Sim.tup Sim.nil) Sim.nil))) (Sim.cons (Sim.tup (Sim.cons Sim.val (Sim.cons (Sim.tup (Sim.cons (Sim.tup (Sim.cons Sim.val (Sim.cons Sim.val Sim.nil))) Sim.nil)) Sim.nil))) Sim.nil))) (Sim.tup (Sim.cons Sim.val (Sim.cons (Sim.tup (Sim.cons (Sim.tup (Sim.cons Sim.val (Sim.cons Sim.val Sim.nil))) Sim.nil)) Sim.nil))))) (Sim.orB (Sim.bool (Sim.op2 (Sim.call (Sim.cons Sim.var (Sim.cons (Sim.tup (Sim.cons Sim.val (Sim.cons Sim.val (Sim.cons Sim.val Sim.nil)))) Sim.nil))) (Sim.tup (Sim.cons Sim.val (Sim.cons (Sim.tup (Sim.cons (Sim.tup (Sim.cons Sim.val (Sim.cons Sim.val Sim.nil))) Sim.nil)) Sim.nil))))) (Sim.bool (Sim.op2 (Sim.call (Sim.cons Sim.var (Sim.cons (Sim.tup (Sim.cons Sim.val (Sim.cons Sim.val Sim.nil))) Sim.nil))) (Sim.tup (Sim.cons Sim.val (Sim.cons (Sim.tup (Sim.cons (Sim.tup (Sim.cons Sim.val (Sim.cons Sim.val Sim.nil))) Sim.nil)) Sim.nil)))))))) (RefS.ret (Ref.pu Sim.val)) RefS.refl) (RefS.ret (Ref.andV (Ref.op2 (Ref.lam (Ref.pu Sim.nil)) (Ref.pu Sim.val)) (Ref.pu (Sim.op2 (Sim.call (Sim.cons (Sim.tup (Sim.cons Sim.val (Sim.cons (Sim.tup Sim.nil) Sim.nil))) (Sim.cons (Sim.tup (Sim.cons Sim.val (Sim.cons (Sim.tup Sim.nil) Sim.nil))) Sim.nil))) (Sim.tup (Sim.cons Sim.val (Sim.cons (Sim.tup (Sim.cons (Sim.tup (Sim.cons Sim.val (Sim.cons Sim.val Sim.nil))) Sim.nil)) Sim.nil)))))))))))
end K06

/-! == L06 == -/
set_option Elab.async false
set_option linter.all false
set_option maxRecDepth 100000
set_option maxHeartbeats 4000000
set_option autoImplicit false
/-! L06: the law over data. -/
namespace K06
open PySem PySem.Spec L2 EN
/-- what holds of the names -/
def J (a : Addr) (ρ : Lo) : Prop := ∃ d1 d2 d3 d4 d5 d6 d7 d8 d9 d10 d11 d12 d13 d14 d15 d16 d17 d18 : Option D, ρ = [some (refD a), d1, d2, d3, d4, d5, d6, d7, d8, d9, d10, d11, d12, d13, d14, d15, d16, d17, d18]
def JV (a p : Addr) (ρ : Lo) (S : Sto) : Prop := (∃ d1 d3 d4 d5 d6 d7 d8 d9 d10 d11 d12 d13 d14 d15 d16 d17 d18 : Option D, ρ = [some (refD a), d1, some (refD p), d3, d4, d5, d6, d7, d8, d9, d10, d11, d12, d13, d14, d15, d16, d17, d18]) ∧ VatOk S p
def JO (a : Addr) (ρ : Lo) : Prop := ∃ n ps, Good n ps ∧ ∃ d1 d2 d3 d4 d5 d6 d7 d8 d9 d10 d11 d12 d13 d15 d16 d17 d18 : Option D, ρ = [some (refD a), d1, d2, d3, d4, d5, d6, d7, d8, d9, d10, d11, d12, d13, some (oD n ps), d15, d16, d17, d18]
def JT (a p : Addr) (n : Int) (ps : List IP) (m : Int) (qs : List IP) (ρ : Lo) (S : Sto) : Prop := (∃ d1 d3 d4 d5 d6 d7 d8 d9 d10 d11 d12 d13 d16 d17 d18 : Option D, ρ = [some (refD a), d1, some (refD p), d3, d4, d5, d6, d7, d8, d9, d10, d11, d12, d13, some (oD n ps), some (oD m qs), d16, d17, d18]) ∧ VatOk S p
def JL (a p : Addr) (n : Int) (ps : List IP) (m : Int) (qs : List IP) (r : List Int) (ρ : Lo) (S : Sto) : Prop := (∃ d1 d3 d4 d5 d6 d7 d8 d9 d10 d12 d13 d16 d17 d18 : Option D, ρ = [some (refD a), d1, some (refD p), d3, d4, d5, d6, d7, d8, d9, d10, some (rowD r), d12, d13, some (oD n ps), some (oD m qs), d16, d17, d18]) ∧ VatOk S p
def JX (a p : Addr) (n : Int) (ps : List IP) (m : Int) (qs : List IP) (r : List Int) (ρ : Lo) (S : Sto) : Prop := (∃ d1 d3 d4 d5 d6 d7 d8 d9 d10 d13 d16 d17 d18 : Option D, ρ = [some (refD a), d1, some (refD p), d3, d4, d5, d6, d7, d8, d9, d10, some (rowD r), some (lsD (partP r ps)), d13, some (oD n ps), some (oD m qs), d16, d17, d18]) ∧ VatOk S p
theorem asg_none (t : D) : True := trivial
theorem eq_told {X : Type} [DecidableEq X] {f : X → D} (h : EncE f) {n : Nat} (l : ∀ x, Lay n (f x)) (x : X) (e : n + 1 ≤ 64 := by decide) : cmD .ne (.tuple [f x, .str ""]) (.tuple [f x, .str ""]) = some (.bool false) := by
  have l0 : Lay 0 (.str "" : D) := ⟨by decide +kernel, Nat.le_refl _⟩
  have l1 : Lay (n + 1) (.tuple [f x, .str ""] : D) := lay_tup fun d hd => by
    rcases List.mem_cons.mp hd with rfl | hd
    · exact l x
    · rcases List.mem_cons.mp hd with rfl | hd
      · exact l0.mono (Nat.zero_le _)
      · cases hd
  show ((eqD _ _).map (!·)).map PyData.bool = _
  unfold eqD
  rw [l1.shaped e]
  have : PyData.eqv (.tuple [f x, .str ""]) (.tuple [f x, .str ""] : D) = true := by
    show (PyData.eqv (f x) (f x) && (PyData.eqv (.str "") (.str "") && true)) = true
    rw [h]
    simp
    decide +kernel
  rw [this]; rfl
theorem none_told (t : Str) (h : PyData.canLay0 (.str t) = true) : cmD .ne (.tuple [.none, .str t]) (.tuple [.none, .str t]) = some (.bool false) := by
  have l1 : Lay 1 (.tuple [.none, .str t] : D) := lay_tup fun d hd => by
    rcases List.mem_cons.mp hd with rfl | hd
    · exact lay_none
    · rcases List.mem_cons.mp hd with rfl | hd
      · exact ⟨h, Nat.le_refl _⟩
      · cases hd
  show ((eqD _ _).map (!·)).map PyData.bool = _
  unfold eqD
  rw [l1.shaped]
  have : PyData.eqv (.tuple [.none, .str t]) (.tuple [.none, .str t] : D) = true := by
    show (true && ((t == t) && true)) = true
    simp
  rw [this]; rfl
theorem encO : EncE (fun p : Int × List IP => oD p.1 p.2) := encE_o
theorem layO : ∀ p : Int × List IP, Lay 3 (oD p.1 p.2) := fun p => lay_oD p.1 p.2
theorem stacked_o {n m : Int} {ps qs : List IP} (g : Good n ps) (h : Good m qs) : g_stacked [oD n ps, oD m qs] = if n + m ≤ 6 then .ok (oD (n + m) (srtP (bothP n ps m qs true))) else .ex "TooMany" := by
  have b := both_o n m ps qs true ⟨by have := g.lo; omega, g.hi⟩ ⟨by have := h.lo; omega, h.hi⟩ g.len h.len
  by_cases c : n + m ≤ 6
  · rw [if_pos c] at b ⊢
    simp [g_stacked, p_stacked, startD, need_o g, need_o h, b]
  · rw [if_neg c] at b ⊢
    simp [g_stacked, p_stacked, startD, need_o g, need_o h, b]
theorem beside_o {n m : Int} {ps qs : List IP} (g : Good n ps) (h : Good m qs) : g_beside [oD n ps, oD m qs] = if n + m ≤ 6 then .ok (oD (n + m) (srtP (bothP n ps m qs false))) else .ex "TooMany" := by
  have b := both_o n m ps qs false ⟨by have := g.lo; omega, g.hi⟩ ⟨by have := h.lo; omega, h.hi⟩ g.len h.len
  by_cases c : n + m ≤ 6
  · rw [if_pos c] at b ⊢
    simp [g_beside, p_beside, startD, need_o g, need_o h, b]
  · rw [if_neg c] at b ⊢
    simp [g_beside, p_beside, startD, need_o g, need_o h, b]
abbrev calls06 : List (Str × C2) := [("stacked", (.pure g_stacked)), ("beside", (.pure g_beside)), ("part", (.pure g_part))]
theorem joined {a p : Addr} {n m : Int} {ps qs : List IP} {S : Sto} {Q : D → Sto → Prop} {xs : Str → Lo → Sto → Prop} {d1 d3 d5 d6 d7 d8 d9 d10 d11 d12 d13 d17 d18 : Option D} {x : Str} {g : List D → Res} (hv : VatOk S p) (g1 : Good n ps) (g2 : Good m qs) (hm4 : m ≤ 4) (over : Bool) (hx : (x, C2.pure g) ∈ calls06)
    (hg : g [oD n ps, oD m qs] = if n + m ≤ 6 then .ok (oD (n + m) (srtP (bothP n ps m qs over))) else .ex "TooMany") :
    (MS.seq (.asg (.ite (.pu (.bool (.op2 false false (cmD .lt) (.op2 false false (op2 .add) (.op2 false false ixD (.var 14) (.val (.int 0))) (.op2 false false ixD (.var 15) (.val (.int 0)))) (.val (.int 7))))) (.tup (.cons (.call 3 cBothL (.pu (.cons (.var 14) (.cons (.var 15) (.cons (.var 16) .nil))))) (.pu (.cons (.val (.str "")) .nil)))) (.pu (.tup (.cons (.val .none) (.cons (.val (.str "many value")) .nil))))) (tgN 13))
    (.ifS (.bool (.op2 false false (cmD .ne) (.lam 0 3 [4, 14, 15] (.callv 0 2 (gAny calls06) (.cons (.var 1) (.cons (.var 2) .nil))) (gTold nm) (.pu .nil)) (.pu (.var 13)))) (.ret (.pu (.val (.bool false)))) .skip)).run [some (refD a), d1, some (refD p), d3, some (fnD x), d5, d6, d7, d8, d9, d10, d11, d12, d13, some (oD n ps), some (oD m qs), some (.bool over), d17, d18] S (fun ρ S => JT a p n ps m qs ρ S) Q xs := by
  by_cases c : n + m ≤ 6
  · rw [if_pos c] at hg
    have c' : n + m < 7 := by omega
    simp [c']
    refine ⟨n, m, ps, qs, over, rfl, by have := g1.lo; omega, g1.hi, by have := g2.lo; omega, g2.hi, g1.len, g2.len, ?_⟩
    simp
    refine ⟨[fnD x, oD n ps, oD m qs], rfl, fun f => ?_⟩
    rw [cErr_run, lamC_run]
    simp
    refine ⟨.pure g, ⟨_, hx, rfl, rfl⟩, ?_⟩
    rw [C2.pure_run, hg]
    have e := eq_told encO layO (n + m, srtP (bothP n ps m qs over))
    simp
    refine ⟨_, e, ?_⟩
    simp
    exact ⟨⟨_, _, _, _, _, _, _, _, _, _, _, _, _, _, _, rfl⟩, hv⟩
  · rw [if_neg c] at hg
    have c' : ¬ n + m < 7 := by omega
    simp [c']
    refine ⟨[fnD x, oD n ps, oD m qs], rfl, fun f => ?_⟩
    rw [cErr_run, lamC_run]
    simp
    refine ⟨.pure g, ⟨_, hx, rfl, rfl⟩, ?_⟩
    rw [C2.pure_run, hg]
    simp
    have e := none_told "many value" (by decide +kernel)
    refine ⟨_, rfl, _, e, ?_⟩
    simp
    exact ⟨⟨_, _, _, _, _, _, _, _, _, _, _, _, _, _, _, rfl⟩, hv⟩
theorem cAll_run {nm : Str → Option Str} {cc : C2} {d0 : D} {odds : List D} {name : Str} {S : Sto} {Q : QD} {E : QX} (h0 : PyData.canLay0 (.str name) = true) (h : ∀ odd, odd ∈ odds → cc.run [odd] S (fun _ _ => False) (fun x S1 => nm x = some name ∧ S1 = S)) (q : Q (.bool true) S) : (cAll nm cc d0).run [d0, .list odds, .str name] S Q E := ⟨odds, name, rfl, h0, h, q⟩
theorem bad_first {d : D} (h : d ∈ badOrders) (y : D) : g_stacked [d, y] = .ex "InvalidOrder" ∧ g_beside [d, y] = .ex "InvalidOrder" ∧ g_part [d, y] = .ex "InvalidOrder" ∧ g_turned [d] = .ex "InvalidOrder" := by
  have e := need_bad h
  simp [g_stacked, p_stacked, g_beside, p_beside, g_part, p_part, g_turned, p_turned, startD, e]
theorem bad_second {d : D} (h : d ∈ badOrders) {n : Int} {ps : List IP} (g : Good n ps) : g_stacked [oD n ps, d] = .ex "InvalidOrder" ∧ g_beside [oD n ps, d] = .ex "InvalidOrder" := by
  have e := need_bad h
  simp [g_stacked, p_stacked, g_beside, p_beside, startD, e, need_o g]
def oddLots (n : Int) : List D := [.none, .list [.int 0], .tuple [.int 0, .int 0], .tuple [.int 1, .int 0], .tuple [.int n], .tuple [.bool true], .str "0", .int 0]
def isFalse (r : Res) : Bool := match r with
  | .ok (.bool b) => !b
  | _ => false
theorem isFalse_ok {r : Res} (h : isFalse r = true) : r = .ok (.bool false) := by
  unfold isFalse at h
  split at h
  · rename_i b
    cases b
    · rfl
    · cases h
  · cases h
theorem odd_lots : ∀ n : Int, 1 ≤ n → n ≤ 6 → ((oddLots n).all fun d => isFalse (g_is_lot [.int n, d])) = true := fun n h1 h2 => by
  have : n = 1 ∨ n = 2 ∨ n = 3 ∨ n = 4 ∨ n = 5 ∨ n = 6 := by omega
  rcases this with rfl | rfl | rfl | rfl | rfl | rfl <;> decide +kernel
theorem odd_part {n : Int} {ps : List IP} (g : Good n ps) {d : D} (h : d ∈ oddLots n) : g_part [oD n ps, d] = .ex "InvalidLot" := by
  have e := isFalse_ok (List.all_eq_true.mp (odd_lots n g.lo g.hi) d h)
  have e2 : g_need_lot [oD n ps, d] = .ex "InvalidLot" := by
    simp [g_need_lot, p_need_lot, startD, e]
  simp [g_part, p_part, startD, need_o g, e2]
theorem refused1 {a : Addr} {n : Int} {ps : List IP} {S : Sto} {Q : D → Sto → Prop} {xs : Str → Lo → Sto → Prop} {d1 d2 d3 d5 d6 d7 d8 d9 d10 d11 d12 d13 d15 d16 d17 d18 : Option D} {x : Str} {g : List D → Res} (g1 : Good n ps) (hx : (x, C2.pure g) ∈ calls06) (hg : ∀ d, d ∈ badOrders → g [d, .none] = .ex "InvalidOrder") :
    (MS.ifS (.notB (.bool (.lam 2 2 [4] (.callv 1 2 (gAny calls06) (.cons (.var 0) (.cons (.val .none) .nil))) (gAll nm) (.cons (.call0 (.pure g__law_bad_orders)) (.pu (.cons (.val (.str "order value")) .nil)))))) (.ret (.pu (.val (.bool false)))) .skip).run [some (refD a), d1, d2, d3, some (fnD x), d5, d6, d7, d8, d9, d10, d11, d12, d13, some (oD n ps), d15, d16, d17, d18] S (fun ρ S => JO a ρ) Q xs := by
  simp
  refine ⟨[fnD x], rfl, ?_⟩
  rw [C2.pure_run, bad_orders]
  simp only [Res.run_ok, R.run_ok, R.bind_ok_eq]
  refine fun f => cAll_run (by decide +kernel) (fun d hd => ?_) ?_
  · rw [lamC_run]
    simp
    refine ⟨.pure g, ⟨_, hx, rfl, rfl⟩, ?_⟩
    rw [C2.pure_run, hg d hd]
    exact ⟨rfl, rfl⟩
  · simp
    exact ⟨n, ps, g1, ⟨_, _, _, _, _, _, _, _, _, _, _, _, _, _, _, _, _, rfl⟩⟩
theorem refused2 {a : Addr} {n : Int} {ps : List IP} {S : Sto} {Q : D → Sto → Prop} {xs : Str → Lo → Sto → Prop} {d1 d2 d3 d5 d6 d7 d8 d9 d10 d11 d12 d13 d15 d16 d17 d18 : Option D} {x : Str} {g : List D → Res} (g1 : Good n ps) (hx : (x, C2.pure g) ∈ calls06) (hg : ∀ d, d ∈ badOrders → g [oD n ps, d] = .ex "InvalidOrder") :
    (MS.ifS (.notB (.bool (.lam 2 3 [4, 14] (.callv 1 2 (gAny calls06) (.cons (.var 2) (.cons (.var 0) .nil))) (gAll nm) (.cons (.call0 (.pure g__law_bad_orders)) (.pu (.cons (.val (.str "order value")) .nil)))))) (.ret (.pu (.val (.bool false)))) .skip).run [some (refD a), d1, d2, d3, some (fnD x), d5, d6, d7, d8, d9, d10, d11, d12, d13, some (oD n ps), d15, d16, d17, d18] S (fun ρ S => JO a ρ) Q xs := by
  simp
  refine ⟨[fnD x, oD n ps], rfl, ?_⟩
  rw [C2.pure_run, bad_orders]
  refine fun f => cAll_run (by decide +kernel) (fun d hd => ?_) ?_
  · rw [lamC_run]
    simp
    refine ⟨.pure g, ⟨_, hx, rfl, rfl⟩, ?_⟩
    rw [C2.pure_run, hg d hd]
    exact ⟨rfl, rfl⟩
  · simp
    exact ⟨n, ps, g1, ⟨_, _, _, _, _, _, _, _, _, _, _, _, _, _, _, _, _, rfl⟩⟩
theorem t1 : g_turned [oD 3 [(0, 1), (0, 2)]] = .ok (oD 3 [(1, 0), (2, 0)]) := by
  rw [turned_o (goodB_ok (by decide +kernel)), srtP_of (qs := [(1, 0), (2, 0)]) (by decide +kernel) (by decide +kernel)]
theorem t2 : g_stacked [oD 3 [(0, 1), (0, 2)], .tuple [.int 1, .tuple []]] = .ok (oD 4 [(0, 1), (0, 2), (0, 3), (1, 3), (2, 3)]) := by
  show g_stacked [oD 3 [(0, 1), (0, 2)], oD 1 []] = _
  rw [stacked_o (goodB_ok (by decide +kernel)) (goodB_ok (by decide +kernel)), if_pos (by decide), srtP_of (qs := [(0, 1), (0, 2), (0, 3), (1, 3), (2, 3)]) (by decide +kernel) (by decide +kernel)]
  rfl
theorem t3 : g_beside [.tuple [.int 1, .tuple []], .tuple [.int 2, .tuple [.tuple [.int 0, .int 1]]]] = .ok (oD 3 [(1, 2)]) := by
  show g_beside [oD 1 [], oD 2 [(0, 1)]] = _
  rw [beside_o (goodB_ok (by decide +kernel)) (goodB_ok (by decide +kernel)), if_pos (by decide), srtP_of (qs := [(1, 2)]) (by decide +kernel) (by decide +kernel)]
  rfl
theorem t4 : g_part [oD 4 [(0, 2), (1, 2), (1, 3)], .tuple [.int 0, .int 2, .int 3]] = .ok (oD 3 [(0, 1)]) := by
  show g_part [oD 4 [(0, 2), (1, 2), (1, 3)], rowD [0, 2, 3]] = _
  rw [part_o (goodB_ok (by decide +kernel)) ⟨by decide, by decide⟩, if_neg (by decide), srtP_of (qs := [(0, 1)]) (by decide +kernel) (by decide +kernel)]
  rfl
theorem t5 : g_part [oD 6 [(0, 3), (0, 4), (0, 5), (1, 4), (1, 5), (2, 5)], .tuple [.int 0, .int 5]] = .ok (oD 2 [(0, 1)]) := by
  show g_part [oD 6 [(0, 3), (0, 4), (0, 5), (1, 4), (1, 5), (2, 5)], rowD [0, 5]] = _
  rw [part_o (goodB_ok (by decide +kernel)) ⟨by decide, by decide⟩, if_neg (by decide), srtP_of (qs := [(0, 1)]) (by decide +kernel) (by decide +kernel)]
  rfl
theorem t6 : g_stacked [oD 4 [(0, 2), (1, 2), (1, 3)], oD 3 []] = .ex "TooMany" := by
  rw [stacked_o (goodB_ok (by decide +kernel)) (goodB_ok (by decide +kernel)), if_neg (by decide)]
theorem t7 : g_stacked [.tuple [.int 1, .tuple []], .tuple [.int 1, .tuple []]] = .ok (oD 2 [(0, 1)]) := by
  show g_stacked [oD 1 [], oD 1 []] = _
  rw [stacked_o (goodB_ok (by decide +kernel)) (goodB_ok (by decide +kernel)), if_pos (by decide), srtP_of (qs := [(0, 1)]) (by decide +kernel) (by decide +kernel)]
  rfl
theorem c1 : cmD .ne (oD 3 [(1, 0), (2, 0)]) (.tuple [.int 3, .tuple [.tuple [.int 1, .int 0], .tuple [.int 2, .int 0]]]) = some (.bool false) := by kernel_rfl
theorem c2 : cmD .ne (oD 4 [(0, 1), (0, 2), (0, 3), (1, 3), (2, 3)]) (.tuple [.int 4, .tuple [.tuple [.int 0, .int 1], .tuple [.int 0, .int 2], .tuple [.int 0, .int 3], .tuple [.int 1, .int 3], .tuple [.int 2, .int 3]]]) = some (.bool false) := by kernel_rfl
theorem c3 : cmD .ne (oD 3 [(1, 2)]) (.tuple [.int 3, .tuple [.tuple [.int 1, .int 2]]]) = some (.bool false) := by kernel_rfl
theorem c4 : cmD .ne (oD 3 [(0, 1)]) (.tuple [.int 3, .tuple [.tuple [.int 0, .int 1]]]) = some (.bool false) := by kernel_rfl
theorem c5 : cmD .ne (oD 2 [(0, 1)]) (.tuple [.int 2, .tuple [.tuple [.int 0, .int 1]]]) = some (.bool false) := by kernel_rfl
theorem c6 : cmD .eq (.str "many value") (.str "many value") = some (.bool true) := by kernel_rfl
theorem c7 : cmD .eq (oD 2 [(0, 1)]) (.tuple [.int 2, .tuple [.tuple [.int 0, .int 1]]]) = some (.bool true) := by kernel_rfl
theorem nm_many : nm "TooMany" = some "many value" := rfl
theorem law_ok (F : Fx) : ∀ (ds : List D) (S : Sto) (Q : QD) (E : QX), ds.length = 1 → (cLaw F).run ds S Q E → (lawM F).run (startD ["script", "k", "vat", "turn", "call", "a", "c", "v", "n", "b", "d", "lot", "pairs", "due", "one", "other", "over", "pair", "thing"] ds) S (fun _ S' => Q .none S') Q (fun x _ S' => E x S') := by
  rintro ds S Q E _ ⟨a, ns, rfl, hscr, hlen, hbits, rfl, q⟩
  refine law_ref F _ _ _ _ _ ?_
  unfold lawQ
  refine seq_cut (fun ρ S => J a ρ) ?_ ?_
  · obtain ⟨m, hm, hm0, hm1⟩ : ∃ m : Int, (if (5 : Int) < (if (ns.length : Int) < 11 then (ns.length : Int) else 11) then (if (ns.length : Int) < 11 then (ns.length : Int) else 11) else 5) = m ∧ 0 ≤ m ∧ m ≤ 11 := ⟨_, rfl, by split <;> split <;> omega, by split <;> split <;> omega⟩
    simp [startD, hscr]
    rw [hm, rng1_eq m (by omega)]
    refine ⟨_, rfl, ?_⟩
    refine forL_inv PyData.int (fun ρ S => J a ρ) (rangeI m) (fun k ρ S hk hJ => ⟨_, rfl, ?_⟩) ⟨_, _, _, _, _, _, _, _, _, _, _, _, _, _, _, _, _, _, rfl⟩ (fun ρ S h => h)
    have hk := mem_rangeI.mp hk
    obtain ⟨d1, d2, d3, d4, d5, d6, d7, d8, d9, d10, d11, d12, d13, d14, d15, d16, d17, d18, rfl⟩ := hJ
    -- the vat
    refine seq_cut (fun ρ S => ∃ p, JV a p ρ S) ?_ ?_
    · simp
      exact ⟨a, ns, k, rfl, hscr, by omega, by omega, fun p x y hp hy0 hy1 => ⟨p, ⟨_, _, _, _, _, _, _, _, _, _, _, _, _, _, _, _, _, rfl⟩, VatOk.put S p hy0 hy1⟩⟩
    rintro ρ S ⟨p, ⟨d1, d3, d4, d5, d6, d7, d8, d9, d10, d11, d12, d13, d14, d15, d16, d17, d18, rfl⟩, hv⟩
    -- the turns
    refine seq_cut (fun ρ S => JO a ρ) ?_ ?_
    · simp
      rw [rng1_eq 4 (by decide)]
      simp
      refine forL_map PyData.int (fun i ρ S => JV a p ρ S ∧ (0 < i → JO a ρ)) (rangeI 4) (fun i x ρ S hx hI => ⟨_, rfl, ?_⟩) ⟨⟨⟨_, _, _, _, _, _, _, _, _, _, _, _, _, _, _, _, _, rfl⟩, hv⟩, fun h => by omega⟩ (fun ρ S h => h.2 (by decide))
      obtain ⟨⟨⟨d1, d3, d4, d5, d6, d7, d8, d9, d10, d11, d12, d13, d14, d15, d16, d17, d18, rfl⟩, hv⟩, _⟩ := hI
      -- two orders
      refine seq_cut (fun ρ S => ∃ n ps m qs, Good n ps ∧ Good m qs ∧ m ≤ 4 ∧ JT a p n ps m qs ρ S) ?_ ?_
      · simp
        refine ⟨p, 6, rfl, by decide, by decide, hv, fun n ps S1 g1 _ v1 f1 => ?_⟩
        refine ⟨p, 4, rfl, by decide, by decide, v1, fun m qs S2 g2 h2 v2 f2 => ?_⟩
        exact ⟨n, ps, g1, m, qs, g2, h2, ⟨_, _, _, _, _, _, _, _, _, _, _, _, _, _, _, rfl⟩, v2⟩
      rintro ρ S ⟨n, ps, m, qs, g1, g2, hm4, ⟨d1, d3, d4, d5, d6, d7, d8, d9, d10, d11, d12, d13, d16, d17, d18, rfl⟩, hv⟩
      -- turned
      refine seq_cut (fun ρ S => JT a p n ps m qs ρ S) ?_ ?_
      · have e := lcP_all (vs := [17]) (tg := tgN 17) (me := (.tup (.cons (.op2 false false ixD (.var 17) (.val (.int 1))) (.cons (.op2 false false ixD (.var 17) (.val (.int 0))) .nil)))) (ρ := [some (refD a), d1, some (refD p), d3, d4, d5, d6, d7, d8, d9, d10, d11, d12, d13, some (oD n ps), some (oD m qs), d16, d17, d18]) pairD (fun p => pairD (swapP p)) ps (fun p _ => ⟨_, rfl, by simp [pairD, swapP]⟩) (by have := g1.len; have := size_ge; omega)
        have s := sorted_mapP swapP ps
        have t := turned_o g1
        have c := ne_o n n (srtP (ps.map swapP)) (srtP (ps.map swapP))
        simp [t, e, s, c]
        exact ⟨⟨_, _, _, _, _, _, _, _, _, _, _, _, _, _, _, rfl⟩, hv⟩
      rintro ρ S ⟨⟨d1, d3, d4, d5, d6, d7, d8, d9, d10, d11, d12, d13, d16, d17, d18, rfl⟩, hv⟩
      -- stacked, beside
      refine seq_cut (fun ρ S => JT a p n ps m qs ρ S) ?_ ?_
      · simp
        refine forL_cons rfl (to_end (fun ρ S => JT a p n ps m qs ρ S) ?_ ?_)
        · exact joined hv g1 g2 hm4 true (.head _) (stacked_o g1 g2)
        rintro ρ S ⟨⟨d1, d3, d4, d5, d6, d7, d8, d9, d10, d11, d12, d13, d16, d17, d18, rfl⟩, hv⟩
        refine forL_cons rfl (to_end (fun ρ S => JT a p n ps m qs ρ S) ?_ ?_)
        · exact joined hv g1 g2 hm4 false (.tail _ (.head _)) (beside_o g1 g2)
        exact fun ρ S h => h
      rintro ρ S ⟨⟨d1, d3, d4, d5, d6, d7, d8, d9, d10, d11, d12, d13, d16, d17, d18, rfl⟩, hv⟩
      -- a lot
      refine seq_cut (fun ρ S => ∃ r, Lot n r ∧ JL a p n ps m qs r ρ S) ?_ ?_
      · simp
        rw [rng1_eq n (by have := g1.lo; have := g1.hi; omega)]
        simp
        refine lcG_map PyData.int (fun j acc S' => ∃ l : List Int, acc = l.map .int ∧ l.length ≤ j ∧ (∀ x, x ∈ l → 0 ≤ x ∧ x < (j : Int)) ∧ l.Pairwise (· < ·) ∧ VatOk S' p) (rangeI n) (fun j x acc S' hx ⟨l, h1, h2, h3, h4, h5⟩ => ⟨_, rfl, ?_⟩) ⟨[], rfl, by simp, fun _ h => (by cases h), List.Pairwise.nil, hv⟩ (fun acc S' ⟨l, h1, h2, h3, h4, h5⟩ => ?_)
        · obtain ⟨rfl, hj⟩ := rangeI_get hx
          have hn6 := g1.hi
          simp
          refine cUnder_run (by decide) (by decide) h5 fun u S2 u0 u1 hv2 f2 _ => ?_
          subst h1
          by_cases hu : u = 0
          · simp [hu]
            refine ⟨by have := size_ge; omega, l ++ [((j : Nat) : Int)], by simp, by simp; omega, ?_, ?_, hv2⟩
            · intro x hx
              rcases List.mem_append.mp hx with hx | hx
              · have := h3 x hx; omega
              · have := List.mem_singleton.mp hx; omega
            · refine List.pairwise_append.mpr ⟨h4, List.pairwise_singleton _ _, fun x hx y hy => ?_⟩
              have := h3 x hx
              have := List.mem_singleton.mp hy
              omega
          · simp [hu]
            exact ⟨l, rfl, by omega, fun x hx => by have := h3 x hx; omega, h4, hv2⟩
        · subst h1
          have hl := len_rangeI n
          have h0 := g1.lo
          exact ⟨l, ⟨fun x hx => by have := h3 x hx; omega, h4⟩, ⟨_, _, _, _, _, _, _, _, _, _, _, _, _, _, rfl⟩, h5⟩
      rintro ρ S ⟨r, hr, ⟨d1, d3, d4, d5, d6, d7, d8, d9, d10, d12, d13, d16, d17, d18, rfl⟩, hv⟩
      have hn0 := g1.lo
      have hn6 := g1.hi
      refine seq_cut (fun ρ S => JX a p n ps m qs r ρ S) ?_ ?_
      · have e := lcP_map (vs := [17]) (tg := tgN 17) (mt := (.andB (.bool (.op2 false false (cmD .inn) (.op2 false false ixD (.var 17) (.val (.int 0))) (.var 11))) (.bool (.op2 false false (cmD .inn) (.op2 false false ixD (.var 17) (.val (.int 1))) (.var 11))))) (me := (.tup (.cons (.meth "seq" false indexD (.var 11) (.op2 false false ixD (.var 17) (.val (.int 0)))) (.cons (.meth "seq" false indexD (.var 11) (.op2 false false ixD (.var 17) (.val (.int 1)))) .nil))))
          (ρ := [some (refD a), d1, some (refD p), d3, d4, d5, d6, d7, d8, d9, d10, some (rowD r), d12, d13, some (oD n ps), some (oD m qs), d16, d17, d18]) pairD (fun p => decide (p.1 ∈ r) && decide (p.2 ∈ r)) (fun p => pairD (idxI r p.1, idxI r p.2)) ps [] (fun q _ => ⟨_, rfl, by
          have h1 := encE_int.innT lay_int q.1 r
          have h2 := encE_int.innT lay_int q.2 r
          simp [pairD]
          simp at h1 h2
          simp [h1]
          by_cases hp : q.1 ∈ r
          · simp [hp, h2]
          · simp [hp], fun hp => by
          obtain ⟨h1, h2⟩ := Bool.and_eq_true_iff.mp hp
          have h1 := index_row r q.1 (of_decide_eq_true h1)
          have h2 := index_row r q.2 (of_decide_eq_true h2)
          have ty : isTy "seq" (rowD r) = true := rfl
          simp [ty, h1, h2, pairD]⟩) (by have := size_ge; have := g1.len; simp; omega)
        have e2 : ((ps.filter fun p => decide (p.1 ∈ r) && decide (p.2 ∈ r)).map fun p => pairD (idxI r p.1, idxI r p.2)) = (partP r ps).map pairD := by
          unfold partP
          rw [List.map_map]; rfl
        rw [e2, List.nil_append] at e
        simp [e]
        exact ⟨⟨_, _, _, _, _, _, _, _, _, _, _, _, _, rfl⟩, hv⟩
      rintro ρ S ⟨⟨d1, d3, d4, d5, d6, d7, d8, d9, d10, d13, d16, d17, d18, rfl⟩, hv⟩
      have pt := part_o g1 hr
      have s := sorted_pairs (partP r ps)
      by_cases hr0 : r = []
      · rw [if_pos hr0] at pt
        simp [hr0]
        simp [hr0] at pt
        refine ⟨[oD n ps, rowD []], rfl, fun f => ?_⟩
        rw [cErr_run, lamC_run]
        simp
        rw [C2.pure_run, pt]
        have e := none_told "lot value" (by decide +kernel)
        refine ⟨_, rfl, _, e, ?_⟩
        simp
        exact ⟨⟨⟨_, _, _, _, _, _, _, _, _, _, _, _, _, _, _, _, _, rfl⟩, hv⟩, n, ps, g1, ⟨_, _, _, _, _, _, _, _, _, _, _, _, _, _, _, _, _, rfl⟩⟩
      · rw [if_neg hr0] at pt
        simp [hr0, s]
        refine ⟨[oD n ps, rowD r], rfl, fun f => ?_⟩
        rw [cErr_run, lamC_run]
        simp
        rw [C2.pure_run, pt]
        have e := eq_told encO layO ((r.length : Int), srtP (partP r ps))
        refine ⟨_, e, ?_⟩
        simp
        exact ⟨⟨⟨_, _, _, _, _, _, _, _, _, _, _, _, _, _, _, _, _, rfl⟩, hv⟩, n, ps, g1, ⟨_, _, _, _, _, _, _, _, _, _, _, _, _, _, _, _, _, rfl⟩⟩
    rintro ρ S ⟨n, ps, g1, ⟨d1, d2, d3, d4, d5, d6, d7, d8, d9, d10, d11, d12, d13, d15, d16, d17, d18, rfl⟩⟩
    have hn0 := g1.lo
    have hn6 := g1.hi
    have cw : PyData.canLay0 (.str "order value") = true := by decide +kernel
    -- values refused
    refine seq_cut (fun ρ S => JO a ρ) ?_ ?_
    · simp
      refine forL_cons rfl (to_end (fun ρ S => JO a ρ) (refused1 g1 (.head _) fun d h => (bad_first h _).1) ?_)
      rintro ρ S ⟨n, ps, g1, ⟨d1, d2, d3, d4, d5, d6, d7, d8, d9, d10, d11, d12, d13, d15, d16, d17, d18, rfl⟩⟩
      refine forL_cons rfl (to_end (fun ρ S => JO a ρ) (refused1 g1 (.tail _ (.head _)) fun d h => (bad_first h _).2.1) ?_)
      rintro ρ S ⟨n, ps, g1, ⟨d1, d2, d3, d4, d5, d6, d7, d8, d9, d10, d11, d12, d13, d15, d16, d17, d18, rfl⟩⟩
      refine forL_cons rfl (to_end (fun ρ S => JO a ρ) (refused1 g1 (.tail _ (.tail _ (.head _))) fun d h => (bad_first h _).2.2.1) ?_)
      exact fun ρ S h => h
    rintro ρ S ⟨n, ps, g1, ⟨d1, d2, d3, d4, d5, d6, d7, d8, d9, d10, d11, d12, d13, d15, d16, d17, d18, rfl⟩⟩
    refine seq_cut (fun ρ S => JO a ρ) ?_ ?_
    · simp
      refine forL_cons rfl (to_end (fun ρ S => JO a ρ) (refused2 g1 (.head _) fun d h => (bad_second h g1).1) ?_)
      rintro ρ S ⟨n, ps, g1, ⟨d1, d2, d3, d4, d5, d6, d7, d8, d9, d10, d11, d12, d13, d15, d16, d17, d18, rfl⟩⟩
      refine forL_cons rfl (to_end (fun ρ S => JO a ρ) (refused2 g1 (.tail _ (.head _)) fun d h => (bad_second h g1).2) ?_)
      exact fun ρ S h => h
    rintro ρ S ⟨n, ps, g1, ⟨d1, d2, d3, d4, d5, d6, d7, d8, d9, d10, d11, d12, d13, d15, d16, d17, d18, rfl⟩⟩
    refine seq_cut (fun ρ S => JO a ρ) ?_ ?_
    · simp
      rw [C2.pure_run, bad_orders]
      refine cAll_run (by decide +kernel) (fun d hd => ?_) ?_
      · rw [C2.pure_run, (bad_first hd .none).2.2.2]
        exact ⟨rfl, rfl⟩
      · simp
        exact ⟨n, ps, g1, ⟨_, _, _, _, _, _, _, _, _, _, _, _, _, _, _, _, _, rfl⟩⟩
    rintro ρ S ⟨n, ps, g1, ⟨d1, d2, d3, d4, d5, d6, d7, d8, d9, d10, d11, d12, d13, d15, d16, d17, d18, rfl⟩⟩
    simp
    refine ⟨[oD n ps], rfl, fun f => cAll_run (odds := oddLots n) (by decide +kernel) (fun d hd => ?_) ?_⟩
    · rw [lamC_run]
      simp
      rw [C2.pure_run, odd_part g1 hd]
      exact ⟨rfl, rfl⟩
    · simp
      exact ⟨_, _, _, _, _, _, _, _, _, _, _, _, _, _, _, _, _, _, rfl⟩
  · rintro ρ S ⟨d1, d2, d3, d4, d5, d6, d7, d8, d9, d10, d11, d12, d13, d14, d15, d16, d17, d18, rfl⟩
    refine seq_cut (fun ρ S => ∃ d1 d2 d3 d4 d11 d12 d13 d14 d15 d16 d17 d18 : Option D, ρ = [some (refD a), d1, d2, d3, d4, some (oD 3 []), some (oD 3 [(0, 1), (0, 2), (1, 2)]), some (oD 3 [(0, 1), (0, 2)]), some (oD 4 [(0, 2), (1, 2), (1, 3)]), some (oD 6 [(0, 3), (0, 4), (0, 5), (1, 4), (1, 5), (2, 5)]), some (oD 5 [(0, 1), (0, 2), (1, 2), (3, 4)]), d11, d12, d13, d14, d15, d16, d17, d18]) ?_ ?_
    · simp
      rw [C2.pure_run]
      refine ⟨_, rfl, ⟨_, _, _, _, _, _, _, _, _, _, _, _, rfl⟩⟩
    rintro ρ S ⟨d1, d2, d3, d4, d11, d12, d13, d14, d15, d16, d17, d18, rfl⟩
    simp [t1, t2, t3, t4, t5, c1, c2, c3, c4, c5]
    refine ⟨[oD 4 [(0, 2), (1, 2), (1, 3)], oD 3 []], rfl, fun f => ?_⟩
    rw [cErr_run, lamC_run]
    simp
    rw [C2.pure_run, t6]
    simp [nm_many, c6, t7, c7]
    exact q S
end K06

/-! == A06 == -/
set_option Elab.async false
set_option linter.all false
set_option maxRecDepth 100000
set_option maxHeartbeats 4000000
set_option autoImplicit false
/-! A06: the contracts put together (printed by gen.py). -/
namespace K06
open PySem PySem.Spec PyProof.Rows L2 EN
section
variable {F : Fx} {P : Program} {w : World}
theorem f_is_whole (hd : Hd HLS P F) (base : Heap) : FnD F P w base "is_whole" 1 3 (.pure g_is_whole) := by
  obtain ⟨fd, Fn, gm, hcd⟩ := hd.fn ("is_whole", s_is_whole) (List.mem_of_getElem? (i := 0) rfl)
  exact fnD_of Fn gm (Fn.binds (ps := ["value", "low", "high"]) fun _ _ _ _ _ _ us hl => match us, hl with | [_, _, _], _ => rfl) sc_is_whole rfl (fun cdv A outer s H E hc g => b_is_whole (k := 0) (bn := hd.bn ["bool", "int", "isinstance"] (by decide +kernel)) _ cdv A outer s H E g) (fun ds S Q E hl z => SimS.run sim_is_whole (fun _ => rfl) z)

theorem f_is_pair (hd : Hd HLS P F) (base : Heap) : FnD F P w base "is_pair" 2 2 (.pure g_is_pair) := by
  obtain ⟨fd, Fn, gm, hcd⟩ := hd.fn ("is_pair", s_is_pair) (List.mem_of_getElem? (i := 1) rfl)
  exact fnD_of Fn gm (Fn.binds (ps := ["many", "value"]) fun _ _ _ _ _ _ us hl => match us, hl with | [_, _], _ => rfl) sc_is_pair rfl (fun cdv A outer s H E hc g => b_is_pair (k := 1) (c_is_whole := (.pure g_is_whole)) (j_is_whole := 1) (h_is_whole := (fun F2 b2 le2 => f_is_whole (hd.up le2) b2)) (l_is_whole := by decide) (bn := hd.bn ["all", "isinstance", "len", "tuple"] (by decide +kernel)) _ cdv A outer s H E g) (fun ds S Q E hl z => SimS.run sim_is_pair (fun _ => rfl) z)

theorem f_is_rising (hd : Hd HLS P F) (base : Heap) : FnD F P w base "is_rising" 1 1 (.pure g_is_rising) := by
  obtain ⟨fd, Fn, gm, hcd⟩ := hd.fn ("is_rising", s_is_rising) (List.mem_of_getElem? (i := 2) rfl)
  exact fnD_of Fn gm (Fn.binds (ps := ["value"]) fun _ _ _ _ _ _ us hl => match us, hl with | [_], _ => rfl) sc_is_rising rfl (fun cdv A outer s H E hc g => b_is_rising (k := 0) (bn := hd.bn ["all", "zip"] (by decide +kernel)) _ cdv A outer s H E g) (fun ds S Q E hl z => SimS.run sim_is_rising (fun _ => rfl) z)

theorem f_follows (hd : Hd HLS P F) (base : Heap) : FnD F P w base "follows" 1 1 (.pure g_follows) := by
  obtain ⟨fd, Fn, gm, hcd⟩ := hd.fn ("follows", s_follows) (List.mem_of_getElem? (i := 3) rfl)
  exact fnD_of Fn gm (Fn.binds (ps := ["pairs"]) fun _ _ _ _ _ _ us hl => match us, hl with | [_], _ => rfl) sc_follows rfl (fun cdv A outer s H E hc g => b_follows (k := 0) (bn := hd.bn ["all"] (by decide +kernel)) _ cdv A outer s H E g) (fun ds S Q E hl z => SimS.run sim_follows (fun _ => rfl) z)

theorem f_is_good (hd : Hd HLS P F) (base : Heap) : FnD F P w base "is_good" 3 1 (.pure g_is_good) := by
  obtain ⟨fd, Fn, gm, hcd⟩ := hd.fn ("is_good", s_is_good) (List.mem_of_getElem? (i := 4) rfl)
  exact fnD_of Fn gm (Fn.binds (ps := ["value"]) fun _ _ _ _ _ _ us hl => match us, hl with | [_], _ => rfl) sc_is_good rfl (fun cdv A outer s H E hc g => b_is_good (k := 2) (c_is_whole := (.pure g_is_whole)) (j_is_whole := 1) (h_is_whole := (fun F2 b2 le2 => f_is_whole (hd.up le2) b2)) (c_is_pair := (.pure g_is_pair)) (j_is_pair := 2) (h_is_pair := (fun F2 b2 le2 => f_is_pair (hd.up le2) b2)) (c_is_rising := (.pure g_is_rising)) (j_is_rising := 1) (h_is_rising := (fun F2 b2 le2 => f_is_rising (hd.up le2) b2)) (c_follows := (.pure g_follows)) (j_follows := 1) (h_follows := (fun F2 b2 le2 => f_follows (hd.up le2) b2)) (l_is_whole := by decide) (l_is_pair := by decide) (l_is_rising := by decide) (l_follows := by decide) (gc_MOST_THINGS := hd.gc (List.mem_of_getElem? (i := 0) rfl)) (bn := hd.bn ["all", "isinstance", "len", "tuple"] (by decide +kernel)) _ cdv A outer s H E g) (fun ds S Q E hl z => SimS.run sim_is_good (fun _ => rfl) z)

theorem f_is_lot (hd : Hd HLS P F) (base : Heap) : FnD F P w base "is_lot" 2 2 (.pure g_is_lot) := by
  obtain ⟨fd, Fn, gm, hcd⟩ := hd.fn ("is_lot", s_is_lot) (List.mem_of_getElem? (i := 5) rfl)
  exact fnD_of Fn gm (Fn.binds (ps := ["many", "value"]) fun _ _ _ _ _ _ us hl => match us, hl with | [_, _], _ => rfl) sc_is_lot rfl (fun cdv A outer s H E hc g => b_is_lot (k := 1) (c_is_whole := (.pure g_is_whole)) (j_is_whole := 1) (h_is_whole := (fun F2 b2 le2 => f_is_whole (hd.up le2) b2)) (c_is_rising := (.pure g_is_rising)) (j_is_rising := 1) (h_is_rising := (fun F2 b2 le2 => f_is_rising (hd.up le2) b2)) (l_is_whole := by decide) (l_is_rising := by decide) (bn := hd.bn ["all", "isinstance", "tuple"] (by decide +kernel)) _ cdv A outer s H E g) (fun ds S Q E hl z => SimS.run sim_is_lot (fun _ => rfl) z)

theorem f_need_order (hd : Hd HLS P F) (base : Heap) : FnD F P w base "need_order" 4 1 (.pure g_need_order) := by
  obtain ⟨fd, Fn, gm, hcd⟩ := hd.fn ("need_order", s_need_order) (List.mem_of_getElem? (i := 6) rfl)
  exact fnD_of Fn gm (Fn.binds (ps := ["order"]) fun _ _ _ _ _ _ us hl => match us, hl with | [_], _ => rfl) sc_need_order rfl (fun cdv A outer s H E hc g => b_need_order (k := 3) (c_is_good := (.pure g_is_good)) (j_is_good := 3) (h_is_good := (fun F2 b2 le2 => f_is_good (hd.up le2) b2)) (l_is_good := by decide) (x_InvalidOrder := hd.ex (by decide +kernel)) _ cdv A outer s H E g) (fun ds S Q E hl z => SimS.run sim_need_order (fun _ => rfl) z)

theorem f_need_lot (hd : Hd HLS P F) (base : Heap) : FnD F P w base "need_lot" 3 2 (.pure g_need_lot) := by
  obtain ⟨fd, Fn, gm, hcd⟩ := hd.fn ("need_lot", s_need_lot) (List.mem_of_getElem? (i := 7) rfl)
  exact fnD_of Fn gm (Fn.binds (ps := ["order", "lot"]) fun _ _ _ _ _ _ us hl => match us, hl with | [_, _], _ => rfl) sc_need_lot rfl (fun cdv A outer s H E hc g => b_need_lot (k := 2) (c_is_lot := (.pure g_is_lot)) (j_is_lot := 2) (h_is_lot := (fun F2 b2 le2 => f_is_lot (hd.up le2) b2)) (l_is_lot := by decide) (x_InvalidLot := hd.ex (by decide +kernel)) _ cdv A outer s H E g) (fun ds S Q E hl z => SimS.run sim_need_lot (fun _ => rfl) z)

theorem f_turned_of (hd : Hd HLS P F) (base : Heap) : FnD F P w base "turned_of" 1 1 (.pure g_turned_of) := by
  obtain ⟨fd, Fn, gm, hcd⟩ := hd.fn ("turned_of", s_turned_of) (List.mem_of_getElem? (i := 8) rfl)
  exact fnD_of Fn gm (Fn.binds (ps := ["order"]) fun _ _ _ _ _ _ us hl => match us, hl with | [_], _ => rfl) sc_turned_of rfl (fun cdv A outer s H E hc g => b_turned_of (k := 0) (bn := hd.bn ["sorted", "tuple"] (by decide +kernel)) _ cdv A outer s H E g) (fun ds S Q E hl z => SimS.run sim_turned_of (fun _ => rfl) z)

theorem f_both (hd : Hd HLS P F) (base : Heap) : FnD F P w base "both" 1 3 (.pure g_both) := by
  obtain ⟨fd, Fn, gm, hcd⟩ := hd.fn ("both", s_both) (List.mem_of_getElem? (i := 9) rfl)
  exact fnD_of Fn gm (Fn.binds (ps := ["one", "other", "over"]) fun _ _ _ _ _ _ us hl => match us, hl with | [_, _, _], _ => rfl) sc_both rfl (fun cdv A outer s H E hc g => b_both (k := 0) (gc_MOST_THINGS := hd.gc (List.mem_of_getElem? (i := 0) rfl)) (xT := hd.tm) (bn := hd.bn ["list", "range", "sorted", "tuple"] (by decide +kernel)) _ cdv A outer s H E g) (fun ds S Q E hl z => SimS.run sim_both (fun _ => rfl) z)

theorem f_part_of (hd : Hd HLS P F) (base : Heap) : FnD F P w base "part_of" 1 2 (.pure g_part_of) := by
  obtain ⟨fd, Fn, gm, hcd⟩ := hd.fn ("part_of", s_part_of) (List.mem_of_getElem? (i := 10) rfl)
  exact fnD_of Fn gm (Fn.binds (ps := ["order", "lot"]) fun _ _ _ _ _ _ us hl => match us, hl with | [_, _], _ => rfl) sc_part_of rfl (fun cdv A outer s H E hc g => b_part_of (k := 0) (bn := hd.bn ["len", "sorted", "tuple"] (by decide +kernel)) _ cdv A outer s H E g) (fun ds S Q E hl z => SimS.run sim_part_of (fun _ => rfl) z)

theorem f_turned (hd : Hd HLS P F) (base : Heap) : FnD F P w base "turned" 5 1 (.pure g_turned) := by
  obtain ⟨fd, Fn, gm, hcd⟩ := hd.fn ("turned", s_turned) (List.mem_of_getElem? (i := 11) rfl)
  exact fnD_of Fn gm (Fn.binds (ps := ["order"]) fun _ _ _ _ _ _ us hl => match us, hl with | [_], _ => rfl) sc_turned rfl (fun cdv A outer s H E hc g => b_turned (k := 4) (c_need_order := (.pure g_need_order)) (j_need_order := 4) (h_need_order := (fun F2 b2 le2 => f_need_order (hd.up le2) b2)) (c_turned_of := (.pure g_turned_of)) (j_turned_of := 1) (h_turned_of := (fun F2 b2 le2 => f_turned_of (hd.up le2) b2)) (l_need_order := by decide) (l_turned_of := by decide) _ cdv A outer s H E g) (fun ds S Q E hl z => SimS.run sim_turned (fun _ => rfl) z)

theorem f_stacked (hd : Hd HLS P F) (base : Heap) : FnD F P w base "stacked" 5 2 (.pure g_stacked) := by
  obtain ⟨fd, Fn, gm, hcd⟩ := hd.fn ("stacked", s_stacked) (List.mem_of_getElem? (i := 12) rfl)
  exact fnD_of Fn gm (Fn.binds (ps := ["one", "other"]) fun _ _ _ _ _ _ us hl => match us, hl with | [_, _], _ => rfl) sc_stacked rfl (fun cdv A outer s H E hc g => b_stacked (k := 4) (c_need_order := (.pure g_need_order)) (j_need_order := 4) (h_need_order := (fun F2 b2 le2 => f_need_order (hd.up le2) b2)) (c_both := (.pure g_both)) (j_both := 1) (h_both := (fun F2 b2 le2 => f_both (hd.up le2) b2)) (l_need_order := by decide) (l_both := by decide) _ cdv A outer s H E g) (fun ds S Q E hl z => SimS.run sim_stacked (fun _ => rfl) z)

theorem f_beside (hd : Hd HLS P F) (base : Heap) : FnD F P w base "beside" 5 2 (.pure g_beside) := by
  obtain ⟨fd, Fn, gm, hcd⟩ := hd.fn ("beside", s_beside) (List.mem_of_getElem? (i := 13) rfl)
  exact fnD_of Fn gm (Fn.binds (ps := ["one", "other"]) fun _ _ _ _ _ _ us hl => match us, hl with | [_, _], _ => rfl) sc_beside rfl (fun cdv A outer s H E hc g => b_beside (k := 4) (c_need_order := (.pure g_need_order)) (j_need_order := 4) (h_need_order := (fun F2 b2 le2 => f_need_order (hd.up le2) b2)) (c_both := (.pure g_both)) (j_both := 1) (h_both := (fun F2 b2 le2 => f_both (hd.up le2) b2)) (l_need_order := by decide) (l_both := by decide) _ cdv A outer s H E g) (fun ds S Q E hl z => SimS.run sim_beside (fun _ => rfl) z)

theorem f_part (hd : Hd HLS P F) (base : Heap) : FnD F P w base "part" 5 2 (.pure g_part) := by
  obtain ⟨fd, Fn, gm, hcd⟩ := hd.fn ("part", s_part) (List.mem_of_getElem? (i := 14) rfl)
  exact fnD_of Fn gm (Fn.binds (ps := ["order", "lot"]) fun _ _ _ _ _ _ us hl => match us, hl with | [_, _], _ => rfl) sc_part rfl (fun cdv A outer s H E hc g => b_part (k := 4) (c_need_order := (.pure g_need_order)) (j_need_order := 4) (h_need_order := (fun F2 b2 le2 => f_need_order (hd.up le2) b2)) (c_need_lot := (.pure g_need_lot)) (j_need_lot := 3) (h_need_lot := (fun F2 b2 le2 => f_need_lot (hd.up le2) b2)) (c_part_of := (.pure g_part_of)) (j_part_of := 1) (h_part_of := (fun F2 b2 le2 => f_part_of (hd.up le2) b2)) (l_need_order := by decide) (l_need_lot := by decide) (l_part_of := by decide) (x_InvalidLot := hd.ex (by decide +kernel)) _ cdv A outer s H E g) (fun ds S Q E hl z => SimS.run sim_part (fun _ => rfl) z)

theorem f__law_vat (hd : Hd HLS P F) (base : Heap) : FnD F P w base "_law_vat" 1 2 (cVat F) := by
  obtain ⟨fd, Fn, gm, hcd⟩ := hd.fn ("_law_vat", s__law_vat) (List.mem_of_getElem? (i := 15) rfl)
  exact fnD_of Fn gm (Fn.binds (ps := ["script", "k"]) fun _ _ _ _ _ _ us hl => match us, hl with | [_, _], _ => rfl) sc__law_vat rfl (fun cdv A outer s H E hc g => b__law_vat (k := 0) (F := F) (bn := hd.bn ["abs", "int", "len"] (by decide +kernel)) _ cdv A outer s H E g) (fun ds S Q E hl z => hc__law_vat F ds S Q E hl z)

theorem f__law_under (hd : Hd HLS P F) (base : Heap) : FnD F P w base "_law_under" 1 2 cUnder := by
  obtain ⟨fd, Fn, gm, hcd⟩ := hd.fn ("_law_under", s__law_under) (List.mem_of_getElem? (i := 16) rfl)
  exact fnD_of Fn gm (Fn.binds (ps := ["vat", "many"]) fun _ _ _ _ _ _ us hl => match us, hl with | [_, _], _ => rfl) sc__law_under rfl (fun cdv A outer s H E hc g => b__law_under (k := 0) (bn := hd.bn ["int"] (by decide +kernel)) _ cdv A outer s H E g) (fun ds S Q E hl z => hc__law_under ds S Q E hl z)

theorem f__law_closed (hd : Hd HLS P F) (base : Heap) : FnD F P w base "_law_closed" 1 1 (.pure g__law_closed) := by
  obtain ⟨fd, Fn, gm, hcd⟩ := hd.fn ("_law_closed", s__law_closed) (List.mem_of_getElem? (i := 17) rfl)
  exact fnD_of Fn gm (Fn.binds (ps := ["pairs"]) fun _ _ _ _ _ _ us hl => match us, hl with | [_], _ => rfl) sc__law_closed rfl (fun cdv A outer s H E hc g => b__law_closed (k := 0) (bn := hd.bn ["set", "sorted", "tuple"] (by decide +kernel)) _ cdv A outer s H E g) (fun ds S Q E hl z => SimS.run sim__law_closed (fun _ => rfl) z)

theorem f__law_row (hd : Hd HLS P F) (base : Heap) : FnD F P w base "_law_row" 2 2 cRow := by
  obtain ⟨fd, Fn, gm, hcd⟩ := hd.fn ("_law_row", s__law_row) (List.mem_of_getElem? (i := 18) rfl)
  exact fnD_of Fn gm (Fn.binds (ps := ["vat", "many"]) fun _ _ _ _ _ _ us hl => match us, hl with | [_, _], _ => rfl) sc__law_row rfl (fun cdv A outer s H E hc g => b__law_row (k := 1) (c__law_under := cUnder) (j__law_under := 1) (h__law_under := (fun F2 b2 le2 => f__law_under (hd.up le2) b2)) (l__law_under := by decide) (bn := hd.bn ["len", "list", "range"] (by decide +kernel)) _ cdv A outer s H E g) (fun ds S Q E hl z => hc__law_row ds S Q E hl z)

theorem f__law_order (hd : Hd HLS P F) (base : Heap) : FnD F P w base "_law_order" 3 2 cOrder := by
  obtain ⟨fd, Fn, gm, hcd⟩ := hd.fn ("_law_order", s__law_order) (List.mem_of_getElem? (i := 19) rfl)
  exact fnD_of Fn gm (Fn.binds (ps := ["vat", "most"]) fun _ _ _ _ _ _ us hl => match us, hl with | [_, _], _ => rfl) sc__law_order rfl (fun cdv A outer s H E hc g => b__law_order (k := 2) (c__law_under := cUnder) (j__law_under := 1) (h__law_under := (fun F2 b2 le2 => f__law_under (hd.up le2) b2)) (c__law_row := cRow) (j__law_row := 2) (h__law_row := (fun F2 b2 le2 => f__law_row (hd.up le2) b2)) (c__law_closed := (.pure g__law_closed)) (j__law_closed := 1) (h__law_closed := (fun F2 b2 le2 => f__law_closed (hd.up le2) b2)) (l__law_under := by decide) (l__law_row := by decide) (l__law_closed := by decide) (bn := hd.bn ["range", "tuple"] (by decide +kernel)) _ cdv A outer s H E g) (fun ds S Q E hl z => hc__law_order ds S Q E hl z)

theorem tell_ok : HLS.tellB = true := by decide +kernel
theorem f__law_names (hd : Hd HLS P F) : FnN F P w "_law_names" 1 (HLS.nmA F.K) := by
  obtain ⟨fd, Fn, gm, _⟩ := hd.fn ("_law_names", s__law_names) (List.mem_of_getElem? (i := 20) rfl)
  refine fnN_of (ms := fun a D => m__law_names a (HLS.bitsA F.K D)) Fn gm (Fn.binds (ps := ["e"]) fun _ _ _ _ _ _ us hl => match us, hl with | [_], _ => rfl) sc__law_names rfl (fun D t ht => ?_) (fun F' base cdv A outer s H E a D d oe t le ht ho => ?_) (fun a D t S Q ht q => ?_)
  · obtain ⟨p, hp, e1, e2, e3, e4⟩ := hd.bits ht
    exact e3
  · obtain ⟨p, hp, e1, e2, e3, e4⟩ := hd.bits ht
    have hd' := hd.up le
    exact b__law_names (g_InvalidOrder := He.ga F.K "InvalidOrder") (m_InvalidOrder := by rw [le.mg]; exact hd.tst ("InvalidOrder", none) (List.mem_of_getElem? (i := 0) rfl) rfl) (t_InvalidOrder := by rw [le.K]; exact e4 0 ("InvalidOrder", none) rfl) (g_InvalidRow := He.ga F.K "InvalidRow") (m_InvalidRow := by rw [le.mg]; exact hd.tst ("InvalidRow", none) (List.mem_of_getElem? (i := 1) rfl) rfl) (t_InvalidRow := by rw [le.K]; exact e4 1 ("InvalidRow", none) rfl) (g_InvalidLot := He.ga F.K "InvalidLot") (m_InvalidLot := by rw [le.mg]; exact hd.tst ("InvalidLot", none) (List.mem_of_getElem? (i := 2) rfl) rfl) (t_InvalidLot := by rw [le.K]; exact e4 2 ("InvalidLot", none) rfl) (g_InvalidThing := He.ga F.K "InvalidThing") (m_InvalidThing := by rw [le.mg]; exact hd.tst ("InvalidThing", none) (List.mem_of_getElem? (i := 3) rfl) rfl) (t_InvalidThing := by rw [le.K]; exact e4 3 ("InvalidThing", none) rfl) (g_InvalidNumber := He.ga F.K "InvalidNumber") (m_InvalidNumber := by rw [le.mg]; exact hd.tst ("InvalidNumber", none) (List.mem_of_getElem? (i := 4) rfl) rfl) (t_InvalidNumber := by rw [le.K]; exact e4 4 ("InvalidNumber", none) rfl) (g_InvalidPair := He.ga F.K "InvalidPair") (m_InvalidPair := by rw [le.mg]; exact hd.tst ("InvalidPair", none) (List.mem_of_getElem? (i := 5) rfl) rfl) (t_InvalidPair := by rw [le.K]; exact e4 5 ("InvalidPair", none) rfl) (g_InvalidPairs := He.ga F.K "InvalidPairs") (m_InvalidPairs := by rw [le.mg]; exact hd.tst ("InvalidPairs", none) (List.mem_of_getElem? (i := 6) rfl) rfl) (t_InvalidPairs := by rw [le.K]; exact e4 6 ("InvalidPairs", none) rfl) (g_InvalidFacts := He.ga F.K "InvalidFacts") (m_InvalidFacts := by rw [le.mg]; exact hd.tst ("InvalidFacts", none) (List.mem_of_getElem? (i := 7) rfl) rfl) (t_InvalidFacts := by rw [le.K]; exact e4 7 ("InvalidFacts", none) rfl) (g_InvalidPlace := He.ga F.K "InvalidPlace") (m_InvalidPlace := by rw [le.mg]; exact hd.tst ("InvalidPlace", none) (List.mem_of_getElem? (i := 8) rfl) rfl) (t_InvalidPlace := by rw [le.K]; exact e4 8 ("InvalidPlace", none) rfl) (g_InvalidText := He.ga F.K "InvalidText") (m_InvalidText := by rw [le.mg]; exact hd.tst ("InvalidText", none) (List.mem_of_getElem? (i := 9) rfl) rfl) (t_InvalidText := by rw [le.K]; exact e4 9 ("InvalidText", none) rfl) (g_Contrary := He.ga F.K "Contrary") (m_Contrary := by rw [le.mg]; exact hd.tst ("Contrary", none) (List.mem_of_getElem? (i := 10) rfl) rfl) (t_Contrary := by rw [le.K]; exact e4 10 ("Contrary", none) rfl) (g_Unlike := He.ga F.K "Unlike") (m_Unlike := by rw [le.mg]; exact hd.tst ("Unlike", none) (List.mem_of_getElem? (i := 11) rfl) rfl) (t_Unlike := by rw [le.K]; exact e4 11 ("Unlike", none) rfl) (g_NothingToUndo := He.ga F.K "NothingToUndo") (m_NothingToUndo := by rw [le.mg]; exact hd.tst ("NothingToUndo", none) (List.mem_of_getElem? (i := 12) rfl) rfl) (t_NothingToUndo := by rw [le.K]; exact e4 12 ("NothingToUndo", none) rfl) (g_TooMany := He.ga F.K "TooMany") (m_TooMany := by rw [le.mg]; exact hd.tst ("TooMany", none) (List.mem_of_getElem? (i := 13) rfl) rfl) (t_TooMany := by rw [le.K]; exact e4 13 ("TooMany", none) rfl) (boot_ValueError := by decide +kernel) (t_ValueError := by rw [le.K]; exact e4 14 ("ValueError", some "ValueError") rfl) (bn := hd'.bn ["isinstance", "zip", "ValueError"] (by decide +kernel)) _ cdv A outer s H E ho
  · obtain ⟨p, hp, e1, e2, e3, e4⟩ := hd.bits ht
    obtain ⟨h1, h2⟩ := HL.tell_ok tell_ok hp
    rw [e2]
    refine names_run a p.2.2 h1 S Q ?_ _ _
    rw [h2, e1]
    exact q
theorem near_ne : HLS.errs.isEmpty = false := rfl

theorem f__law_error (hd : Hd HLS P F) (base : Heap) {d0 : D} {cc : C2} {j : Nat} (hG : CalG F P w base (gOne d0 cc) j 0) : FnD F P w base "_law_error" (max j 1 + 1) 1 (cErr HLS.nmS (fun _ => .str "") .str cc d0) := by
  obtain ⟨fd, Fn, gm, _⟩ := hd.fn ("_law_error", s__law_error) (List.mem_of_getElem? (i := 21) rfl)
  exact fnD_of Fn gm (Fn.binds (ps := ["call"]) fun _ _ _ _ _ _ us hl => match us, hl with | [_], _ => rfl) sc__law_error rfl (fun cdv A outer s H E hc g => b__law_error (k := max j 1) (gOne d0 cc) hG (Nat.le_max_left _ _) (hd.near near_ne) (f__law_names hd) (Nat.le_max_right _ _) hd.nearOk _ cdv A outer s H E g) (hc__law_error HLS.nmS d0 cc)

theorem f__law_told (hd : Hd HLS P F) (base : Heap) {d0 : D} {cc : C2} {j : Nat} (hG : CalG F P w base (gOne d0 cc) j 0) : FnD F P w base "_law_told" (max j 1 + 1) 1 (cErr HLS.nmS (fun d => .tuple [d, .str ""]) (fun t => .tuple [.none, .str t]) cc d0) := by
  obtain ⟨fd, Fn, gm, _⟩ := hd.fn ("_law_told", s__law_told) (List.mem_of_getElem? (i := 22) rfl)
  exact fnD_of Fn gm (Fn.binds (ps := ["call"]) fun _ _ _ _ _ _ us hl => match us, hl with | [_], _ => rfl) sc__law_told rfl (fun cdv A outer s H E hc g => b__law_told (k := max j 1) (gOne d0 cc) hG (Nat.le_max_left _ _) (hd.near near_ne) (f__law_names hd) (Nat.le_max_right _ _) hd.nearOk _ cdv A outer s H E g) (hc__law_told HLS.nmS d0 cc)

theorem f__law_all_refused (hd : Hd HLS P F) (base : Heap) {d0 : D} {cc : C2} {j : Nat} (hG : CalG F P w base (gOne d0 cc) j 1) : FnD F P w base "_law_all_refused" (max (j + 1) 1 + 1 + 1) 3 (cAll HLS.nmS cc d0) := by
  obtain ⟨fd, Fn, gm, hcd⟩ := hd.fn ("_law_all_refused", s__law_all_refused) (List.mem_of_getElem? (i := 23) rfl)
  exact fnD_of Fn gm (Fn.binds (ps := ["call", "odds", "name"]) fun _ _ _ _ _ _ us hl => match us, hl with | [_, _, _], _ => rfl) sc__law_all_refused rfl (fun cdv A outer s H E hc g => b__law_all_refused (k := max (j + 1) 1 + 1) (cG__law_error := gErr HLS.nmS) (G_call := gOne d0 cc) (jl := j) (hl__law_error := fun F1 b1 f1 cc le1 h1 => f__law_error (hd.up le1) b1 (calG_clo h1)) (l__law_error := Nat.le_refl _) (gl__law_error := hd.ga (List.mem_of_getElem? (i := 21) rfl)) (hG_call := hG) (lvl_call := Nat.le_refl _) (lt := hd.lam "_law_all_refused" (by decide +kernel)) _ cdv A outer s H E (hc.symm.trans hcd) g) (hc__law_all_refused HLS.nmS d0 cc)

theorem f__law_known (hd : Hd HLS P F) (base : Heap) : FnD F P w base "_law_known" 1 0 (.pure gKnown) := by
  obtain ⟨fd, Fn, gm, hcd⟩ := hd.fn ("_law_known", s__law_known) (List.mem_of_getElem? (i := 24) rfl)
  exact fnD_of Fn gm (Fn.binds (ps := []) fun _ _ _ _ _ _ us hl => match us, hl with | [], _ => rfl) sc__law_known rfl (fun cdv A outer s H E hc g => b__law_known (k := 0)  _ cdv A outer s H E g) (fun ds S Q E hl z => hc__law_known ds S Q E hl z)

theorem f__law_bad_orders (hd : Hd HLS P F) (base : Heap) : FnD F P w base "_law_bad_orders" 1 0 (.pure g__law_bad_orders) := by
  obtain ⟨fd, Fn, gm, hcd⟩ := hd.fn ("_law_bad_orders", s__law_bad_orders) (List.mem_of_getElem? (i := 25) rfl)
  exact fnD_of Fn gm (Fn.binds (ps := []) fun _ _ _ _ _ _ us hl => match us, hl with | [], _ => rfl) sc__law_bad_orders rfl (fun cdv A outer s H E hc g => b__law_bad_orders (k := 0)  _ cdv A outer s H E g) (fun ds S Q E hl z => SimS.run sim__law_bad_orders (fun _ => rfl) z)

theorem f__law_both (hd : Hd HLS P F) (base : Heap) : FnD F P w base "_law_both" 1 3 cBothL := by
  obtain ⟨fd, Fn, gm, hcd⟩ := hd.fn ("_law_both", s__law_both) (List.mem_of_getElem? (i := 26) rfl)
  exact fnD_of Fn gm (Fn.binds (ps := ["one", "other", "over"]) fun _ _ _ _ _ _ us hl => match us, hl with | [_, _, _], _ => rfl) sc__law_both rfl (fun cdv A outer s H E hc g => b__law_both (k := 0) (bn := hd.bn ["list", "range", "sorted", "tuple"] (by decide +kernel)) _ cdv A outer s H E g) (fun ds S Q E hl z => hc__law_both ds S Q E hl z)

theorem f_law (w : World) (hd : Hd HLS P F) (base : Heap) (f : Addr) (fd : FuncData) (Fn : Fun F.K "law" "law" s_law f fd) (hcd : fd.code = .ref (He.codeOf F.K (("law" : Str), none))) : FnOk P w F.K F.mg base (L2N.CX P w) 10 f fd ["script"] (spD F 1 (cLaw F)) :=
  fnOk_of Fn sc_law rfl (fun cdv A outer s H E hc g => b_law (k := 9) (F := F) (c__law_vat := (cVat F)) (j__law_vat := 1) (h__law_vat := (fun F2 b2 le2 => by have h := f__law_vat (w := w) (hd.up le2) b2; rw [cVat_eq le2] at h; exact h)) (c__law_order := cOrder) (j__law_order := 3) (h__law_order := (fun F2 b2 le2 => f__law_order (hd.up le2) b2)) (c_turned := (.pure g_turned)) (j_turned := 5) (h_turned := (fun F2 b2 le2 => f_turned (hd.up le2) b2)) (c__law_both := cBothL) (j__law_both := 1) (h__law_both := (fun F2 b2 le2 => f__law_both (hd.up le2) b2)) (c__law_under := cUnder) (j__law_under := 1) (h__law_under := (fun F2 b2 le2 => f__law_under (hd.up le2) b2)) (c__law_bad_orders := (.pure g__law_bad_orders)) (j__law_bad_orders := 1) (h__law_bad_orders := (fun F2 b2 le2 => f__law_bad_orders (hd.up le2) b2)) (c__law_known := (.pure gKnown)) (j__law_known := 1) (h__law_known := (fun F2 b2 le2 => f__law_known (hd.up le2) b2)) (c_stacked := (.pure g_stacked)) (j_stacked := 5) (h_stacked := (fun F2 b2 le2 => f_stacked (hd.up le2) b2)) (c_beside := (.pure g_beside)) (j_beside := 5) (h_beside := (fun F2 b2 le2 => f_beside (hd.up le2) b2)) (c_part := (.pure g_part)) (j_part := 5) (h_part := (fun F2 b2 le2 => f_part (hd.up le2) b2)) (l__law_vat := by decide) (l__law_order := by decide) (l_turned := by decide) (l__law_both := by decide) (l__law_under := by decide) (l__law_bad_orders := by decide) (l__law_known := by decide) (l_stacked := by decide) (l_beside := by decide) (l_part := by decide) (c__law_all_refused__turned := cAll HLS.nmS (.pure g_turned) (fnD "turned")) (h__law_all_refused__turned := fun F2 b2 le2 => f__law_all_refused (hd.up le2) b2 (calG_fn (FnA.up (fun F2 b2 le2 => f_turned (hd.up le2) b2) le2))) (l__law_all_refused__turned := by decide) (jl := 5) (ll_part := by decide) (ll_stacked := by decide) (cG__law_told := gTold HLS.nmS) (hl__law_told := fun F1 b1 f1 cc le1 h1 => f__law_told (hd.up le1) b1 (calG_clo h1)) (l__law_told := by decide) (gl__law_told := hd.ga (List.mem_of_getElem? (i := 22) rfl)) (cG__law_all_refused := gAll HLS.nmS) (hl__law_all_refused := fun F1 b1 f1 cc le1 h1 => f__law_all_refused (hd.up le1) b1 (calG_clo h1)) (l__law_all_refused := by decide) (gl__law_all_refused := hd.ga (List.mem_of_getElem? (i := 23) rfl)) (cG__law_error := gErr HLS.nmS) (hl__law_error := fun F1 b1 f1 cc le1 h1 => f__law_error (hd.up le1) b1 (calG_clo h1)) (l__law_error := by decide) (gl__law_error := hd.ga (List.mem_of_getElem? (i := 21) rfl)) (G_call := gAny [("stacked", (.pure g_stacked)), ("beside", (.pure g_beside)), ("part", (.pure g_part))]) (jv_call := 5) (hG_call := calG_any (all_cons (FnA.lift (fun F2 b2 le2 => f_stacked (hd.up le2) b2) (by decide)) (all_cons (FnA.lift (fun F2 b2 le2 => f_beside (hd.up le2) b2) (by decide)) (all_cons (FnA.lift (fun F2 b2 le2 => f_part (hd.up le2) b2) (by decide)) all_nil)))) (lvl_call := by decide) (lt := hd.lam "law" (by decide +kernel)) (gf_beside := hd.gf (List.mem_of_getElem? (i := 13) rfl)) (gf_stacked := hd.gf (List.mem_of_getElem? (i := 12) rfl)) (gf_part := hd.gf (List.mem_of_getElem? (i := 14) rfl)) (gf_turned := hd.gf (List.mem_of_getElem? (i := 11) rfl)) (bn := hd.bn ["len", "max", "min", "range", "sorted", "tuple"] (by decide +kernel)) f cdv A outer s H E (hc.symm.trans hcd) g) (fun ds S Q E hl z => law_ok F ds S Q E hl z)
def lawLevel : Nat := 10

end
end K06

/-! == H06 == -/
set_option Elab.async false
set_option linter.all false
set_option maxRecDepth 100000
set_option maxHeartbeats 0
set_option autoImplicit false
/-! H06: the run of the top (printed by head.py). -/
namespace K06
open PySem PySem.Spec PyProof.Rows L2 EN
abbrev RR : PySem.W.OpenRow := PySem.W.OpenLaw.row PySem.Challenge.rw_equalsnear_k06_orders_joined_and_parts
abbrev hk : PySem.W.Hook := hookN 6 HLS stI RR.prog.main.file
def ob (s : PySem.W.SharedT) : AlN := obsN 6 HLS stI RR.prog.main.file (HandSHeadRun.getT s)
theorem ob_eq (s : PySem.W.SharedT) : ob s = hk.obs s.abs := obsN_eq (HandSHeadRun.getT_eq s)
def names : List Str := (["NearError", "InvalidOrder", "InvalidRow", "InvalidLot", "InvalidThing", "InvalidNumber", "InvalidPair", "InvalidPairs", "InvalidFacts", "InvalidPlace", "InvalidText", "Contrary", "Unlike", "NothingToUndo", "TooMany", "MOST_THINGS", "is_whole", "is_pair", "is_rising", "follows", "is_good", "is_lot", "need_order", "need_lot", "turned_of"] : List Str) ++ (["both", "part_of", "turned", "stacked", "beside", "part", "_law_vat", "_law_under", "_law_closed", "_law_row", "_law_order", "_law_names", "_law_error", "_law_told", "_law_all_refused", "_law_known", "_law_bad_orders", "_law_both"] : List Str)
theorem run (w : World) : HandSHeadRun.RunEq RR (PySem.W.view RR.prog [47]) hk ob 6000 names w := by
  intro os
  kernel_rfl
end K06

/-! == Z06 == -/
set_option Elab.async false
set_option linter.all false
set_option maxRecDepth 100000
set_option maxHeartbeats 8000000
open PySem PySem.W PySem.Calls PyProof.Rows
theorem PySem.Challenge.cw_equalsnear_k06_orders_joined_and_parts_holds : PySem.Challenge.rw_equalsnear_k06_orders_joined_and_parts.Holds := by
  w_on; o_law
  refine HandSHeadRun.head_any (r := OpenLaw.row PySem.Challenge.rw_equalsnear_k06_orders_joined_and_parts) (q := view (OpenLaw.row PySem.Challenge.rw_equalsnear_k06_orders_joined_and_parts).prog [47]) (H := K06.hk) (ob := K06.ob) (M := 6000) (loose := K06.names) (d := HandSHeadRun.topDef (OpenLaw.row PySem.Challenge.rw_equalsnear_k06_orders_joined_and_parts).prog 47) (kwd := []) K06.ob_eq
    (by kernel_rfl) (fun s => by kernel_rfl) K06.run (by kernel_rfl) (by kernel_rfl) (by kernel_rfl) (by rfl) (by first | assumption | decide +kernel) (by decide +kernel) ⟨rfl, rfl, rfl, rfl, rfl, by decide +kernel⟩ ?hw ?hc
  case hw => w_witness2
  case hc =>
    exact EN.walk_end (l := PySem.Challenge.rw_equalsnear_k06_orders_joined_and_parts) (L := K06.HLS) (st := K06.stI) (stL := K06.s_law) (n := 6) (k := K06.lawLevel) rfl (by kernel_rfl) ⟨rfl, by decide, by decide⟩ (by kernel_rfl) (List.mem_of_getElem? (i := 27) rfl) (fun _ _ _ _ _ _ _ => rfl) (by decide +kernel) ⟨_, _, _, _, _, _, _, _, _, _, _, _, _, _, _, by decide +kernel, rfl, rfl, rfl⟩ (fun w F base f fd hd Fn hcd => K06.f_law w hd base f fd Fn hcd)
