import PyProof.Rows.All
import Wide.All
import OpenK.AllK
import Wide.FinOn
import HandS.ForMost
import HandS.Exc
import HandS.TryOnly
import HandS.TryMany
import HandS.ExcOwn
import HandS.WordsExc
import KE.KDictKeyed
import KE.DataEq
import HandS.Wide
import HandS.TupAny
import HandS.TupLe
import HandS.TupMul
import HandS.Deep
import HandS.IsInst
import HandS.Style
import PyProof.Rows.InDataRows
import KE.LtData
import KE.SortData
import HandS.Walk
import HandS.Zip
import HandS.Codes
import HandS.RevTup
import HandS.SetFor
import KE.DataMinMax
import HandS.Set
import HandS.Strs
import HandS.DictComp
import HandS.WordsDict
import HandS.More
import HandS.ExcIs
import HandS.ExcField
import HandS.Conv
import HandS.Zip0
import KE.GoesEnum
import HandS.Small
import KE.KDictSum
import KE.KDictList
import PySem.Challenge.RW_chestwright_k53_whole_boarding
set_option Elab.async false
set_option linter.all false
set_option maxRecDepth 100000
set_option maxHeartbeats 4000000
namespace Den
open PySem PySem.Spec PyProof.Rows L2

abbrev St := L2.St
/-- what is written, and the World -/
abbrev Kw := PySem.W.Frag × World
abbrev _root_.L2.Cx.kw (X : Cx) : Kw := (X.K, X.w)
/-! ### denotations: values are PyData; what cannot be followed is stuck, an own error is exc -/
inductive Err where
  | stuck
  | exc (n : String) (p : Option (String × PyData))
abbrev Rs := Except Err
abbrev stuck {α : Type} : Rs α := .error .stuck
/-- a slot: nothing; a value that is never changed; a list of one's own; a list that is read alone; a dict of one's own; one that is read alone -/
inductive B where
  | un
  | dat (d : PyData)
  | ol (l : List PyData)
  | fz (l : List PyData)
  | od (kvs : List (PyData × PyData))
  | fd (kvs : List (PyData × PyData))
/-- of one's own: it may change -/
def B.own : B → Bool
  | .ol _ => true
  | .od _ => true
  | _ => false
abbrev EnvD := List B
abbrev DE := EnvD → Rs PyData
abbrev DL := EnvD → Rs (List PyData)
abbrev DT := EnvD → Rs Bool

/-! ### a value that bears a datum; O: the objects that may still change -/
def LAt (H : Hp) (O : Addr → Prop) (a : Addr) (xs : List V) : Prop := H a = some (.lst xs) ∧ ¬ O a
def TAt (K : Kw) (H : Hp) (O : Addr → Prop) (a : Addr) (xs : List V) : Prop :=
  (Rd H a (.tup xs) ∧ ¬ O a) ∨
    ∃ (o : Obj) (its : Array Value) (n : Nat), K.1.lookup a = some o ∧ o.cls = .type "tuple" ∧ o.data = .seq its n ∧ its.size ≤ sizeLine ∧ Vals xs its.toList
/-! keys of dicts: ints and texts (HandS's dicts), or tuples of any depth -/
mutual
def toK : PyData → NestedKey
  | .int i => .num i
  | .str x => .text x
  | .tuple ds => .tup (toKs ds)
  | _ => .none
def toKs : List PyData → List NestedKey
  | [] => []
  | d :: ds => toK d :: toKs ds
end
mutual
/-- no bool, no list, no dict within -/
def keyB : PyData → Bool
  | .none => true
  | .int _ => true
  | .str _ => true
  | .tuple ds => keyBs ds
  | _ => false
def keyBs : List PyData → Bool
  | [] => true
  | d :: ds => keyB d && keyBs ds
end
def tupB : PyData → Bool
  | .tuple _ => true
  | _ => false
/-- a key of a dict whose keys are tuples -/
def keyT (d : PyData) : Bool := tupB d && (keyB d && decide ((toK d).depth ≤ 8))
def unKey : Key → PyData
  | .inl i => .int i
  | .inr x => .str x
abbrev TRow := NestedKey × Addr × Value
def entryW (w : World) (x : TRow) : DictEntry := ⟨x.1.hash w, .ref x.2.1, x.2.2⟩
def TDict (w : World) (a : Addr) (xs : List TRow) (h : Heap) : Prop :=
  xs.length ≤ sizeLine ∧ (a == sysModules) = false ∧ ∃ o es ep, h.get? a = some o ∧ o.ExactDict ∧ o.data = .dict es ep ∧ es.toList = xs.map (entryW w) ∧ (xs.map (·.1)).Nodup
/-- a dict with tuples for keys -/
def DTO (w : World) (a : Addr) (xs : List TRow) : HO := .ext (TDict w a xs)
/-- u stands at a; z: it is known to the object, and changes no more -/
def Hz (H : Hp) (z : Bool) (a : Addr) (u : HO) : Prop := match z with
  | true => ∃ o, H a = some (.frz o u)
  | false => H a = some u
theorem Hz.there {H : Hp} {z : Bool} {a : Addr} {u : HO} (h : Hz H z a u) : ∃ o, H a = some o := by
  cases z with
  | true => obtain ⟨o, e⟩ := h; exact ⟨_, e⟩
  | false => exact ⟨_, h⟩
theorem Hz.to {H H' : Hp} {z : Bool} {a : Addr} {u : HO} (h : Hz H z a u) (k : ∀ o, H a = some o → H' a = some o) : Hz H' z a u := by
  cases z with
  | true => obtain ⟨o, e⟩ := h; exact ⟨o, k _ e⟩
  | false => exact k _ h
theorem Hz.rd {H : Hp} {z : Bool} {a : Addr} {u : HO} (h : Hz H z a u) : Rd H a u := by
  cases z with
  | true => exact .inr h
  | false => exact .inl h
mutual
inductive Rep (K : Kw) (H : Hp) (O : Addr → Prop) : V → PyData → Prop
  | non : Rep K H O .non .none
  | bl (b : Bool) : Rep K H O (.bl b) (.bool b)
  | int (i : Int) : Rep K H O (.int i) (.int i)
  | str (x : Str) : Rep K H O (.str x) (.str x)
  | lst {a : Addr} {xs : List V} {ds : List PyData} : LAt H O a xs → RepAll K H O xs ds → Rep K H O (.ref a) (.list ds)
  | tup {a : Addr} {xs : List V} {ds : List PyData} : TAt K H O a xs → RepAll K H O xs ds → Rep K H O (.ref a) (.tuple ds)
  | dct {a : Addr} {kvs : List (PyData × PyData)} : DAt K H O true a kvs → ¬ O a → Rep K H O (.ref a) (.dict kvs)
inductive RepAll (K : Kw) (H : Hp) (O : Addr → Prop) : List V → List PyData → Prop
  | nil : RepAll K H O [] []
  | cons {v : V} {vs : List V} {d : PyData} {ds : List PyData} : Rep K H O v d → RepAll K H O vs ds → RepAll K H O (v :: vs) (d :: ds)
/-- at a stands a dict -/
inductive DAt (K : Kw) (H : Hp) (O : Addr → Prop) : Bool → Addr → List (PyData × PyData) → Prop
  | k {z : Bool} {a : Addr} {es : List (Key × V)} {kvs : List (PyData × PyData)} : Hz H z a (.dK es) → RepI K H O es kvs → DAt K H O z a kvs
  | t {z : Bool} {a : Addr} {xs : List TRow} {kvs : List (PyData × PyData)} : Hz H z a (DTO K.2 a xs) → RepT K H O xs kvs → DAt K H O z a kvs
inductive RepI (K : Kw) (H : Hp) (O : Addr → Prop) : List (Key × V) → List (PyData × PyData) → Prop
  | nil : RepI K H O [] []
  | cons {k : Key} {v : V} {d : PyData} {es : List (Key × V)} {kvs : List (PyData × PyData)} : Rep K H O v d → RepI K H O es kvs → RepI K H O ((k, v) :: es) ((unKey k, d) :: kvs)
inductive RepT (K : Kw) (H : Hp) (O : Addr → Prop) : List TRow → List (PyData × PyData) → Prop
  | nil : RepT K H O [] []
  | cons {b : Addr} {u : Value} {v : V} {dk d : PyData} {xs : List TRow} {kvs : List (PyData × PyData)} : Rep K H O (.ref b) dk → keyT dk = true → RelV v u → Rep K H O v d → RepT K H O xs kvs → RepT K H O ((toK dk, b, u) :: xs) ((dk, d) :: kvs)
end
section
variable {K : Kw} {H H' H1 H2 : Hp} {O O' : Addr → Prop}
theorem LAt.sql {F : PySem.W.Frag} {a xs} (h : LAt H O a xs) : SqL F H a xs := SqL.of h.1
theorem TAt.sqt {a xs} (h : TAt K H O a xs) : SqT K.1 H a xs := h.elim (fun h => .inl h.1) .inr
abbrev Reps (K : Kw) (H : Hp) (O : Addr → Prop) : List V → List PyData → Prop := Paired (Rep K H O)
theorem RepAll.iff : ∀ {vs : List V} {ds : List PyData}, RepAll K H O vs ds ↔ Reps K H O vs ds
  | [], [] => ⟨fun _ => .nil, fun _ => .nil⟩
  | [], _ :: _ => ⟨(fun h => nomatch h), (fun h => nomatch h)⟩
  | _ :: _, [] => ⟨(fun h => nomatch h), (fun h => nomatch h)⟩
  | v :: vs, d :: ds => by
    constructor
    · intro h
      cases h with
      | cons a b => exact .cons a (RepAll.iff.mp b)
    · intro h
      cases h with
      | cons a b => exact .cons a (RepAll.iff.mpr b)
mutual
theorem Rep.dp : ∀ {d : PyData} {v : V}, Rep K H O v d → d.plain = true → Dp K.1 H v d
  | .none, _, h, _ => by cases h; exact .non
  | .bool b, _, h, _ => by cases h; exact .bl b
  | .int i, _, h, _ => by cases h; exact .int i
  | .str x, _, h, _ => by cases h; exact .str x
  | .list ds, _, h, p => by
    cases h with
    | lst a b => exact .lst a.sql (RepAll.dp b (by simpa only [PyData.plain] using p))
  | .tuple ds, _, h, p => by
    cases h with
    | tup a b => exact .tup a.sqt (RepAll.dp b (by simpa only [PyData.plain] using p))
  | .dict _, _, _, p => by simp [PyData.plain] at p
theorem RepAll.dp : ∀ {ds : List PyData} {vs : List V}, RepAll K H O vs ds → PyData.plainAll ds = true → DpAll K.1 H vs ds
  | [], _, h, _ => by cases h; exact .nil
  | d :: ds, _, h, p => by
    cases h with
    | cons a b =>
      simp only [PyData.plainAll, Bool.and_eq_true] at p
      exact .cons (Rep.dp a p.1) (RepAll.dp b p.2)
end
/-- what may have changed: the objects of O; new ones may be of O' -/
structure Ext (H : Hp) (O : Addr → Prop) (H' : Hp) (O' : Addr → Prop) : Prop where
  keep : ∀ a o, H a = some o → ¬ O a → H' a = some o
  own : ∀ a, O' a → O a ∨ H a = none
  there : ∀ a o, H a = some o → ∃ o', H' a = some o'
theorem Ext.refl : Ext H O H O := ⟨fun _ _ h _ => h, fun _ h => .inl h, fun _ o h => ⟨o, h⟩⟩
theorem Ext.same (s : Same H H') : Ext H O H' O := ⟨fun a o h _ => s a o h, fun _ h => .inl h, fun a o h => ⟨o, s a o h⟩⟩
theorem Ext.trans {O1 O2 : Addr → Prop} (e : Ext H O H1 O1) (f : Ext H1 O1 H2 O2) : Ext H O H2 O2 where
  keep := fun a o h n => f.keep a o (e.keep a o h n) fun q => (e.own a q).elim n fun z => by rw [z] at h; cases h
  own := fun a q => by
    rcases f.own a q with q | q
    · exact e.own a q
    · cases z : H a with
      | none => exact .inr rfl
      | some o =>
        obtain ⟨o', h'⟩ := e.there a o z
        rw [h'] at q; cases q
  there := fun a o h => by
    obtain ⟨o', h'⟩ := e.there a o h
    exact f.there a o' h'
theorem Ext.less {O1 : Addr → Prop} (h : ∀ a, O1 a → O a) : Ext H O H O1 := ⟨fun _ _ h _ => h, fun a q => .inl (h a q), fun _ o h => ⟨o, h⟩⟩
theorem Ext.rd {a : Addr} {u : HO} (e : Ext H O H' O') (h : Rd H a u ∧ ¬ O a) : Rd H' a u ∧ ¬ O' a := by
  obtain ⟨h, n⟩ := h
  have q : ∀ o, H a = some o → ¬ O' a := fun o z q => (e.own a q).elim n fun y => by rw [y] at z; cases z
  rcases h with h | ⟨o, h⟩
  · exact ⟨.inl (e.keep a _ h n), q _ h⟩
  · exact ⟨.inr ⟨o, e.keep a _ h n⟩, q _ h⟩
theorem LAt.ext {a xs} (e : Ext H O H' O') (h : LAt H O a xs) : LAt H' O' a xs := ⟨e.keep a _ h.1 h.2, fun q => (e.own a q).elim h.2 fun y => by rw [h.1] at y; cases y⟩
theorem TAt.ext {a xs} (e : Ext H O H' O') (h : TAt K H O a xs) : TAt K H' O' a xs := h.elim (fun h => .inl (e.rd h)) .inr
theorem Ext.at {a : Addr} {u : HO} (e : Ext H O H' O') (h : H a = some u) (n : ¬ O a) : H' a = some u ∧ ¬ O' a := ⟨e.keep a _ h n, fun q => (e.own a q).elim n fun y => by rw [h] at y; cases y⟩
theorem DAt.there {z a kvs} (h : DAt K H O z a kvs) : ∃ o, H a = some o := by
  cases h with
  | k e _ => exact e.there
  | t e _ => exact e.there
theorem Rep.ext (e : Ext H O H' O') {d : PyData} {v : V} (h : Rep K H O v d) : Rep K H' O' v d := by
  refine @Rep.rec K H O (fun v d _ => Rep K H' O' v d) (fun vs ds _ => RepAll K H' O' vs ds) (fun z a kvs _ => ¬ O a → DAt K H' O' z a kvs) (fun es kvs _ => RepI K H' O' es kvs) (fun xs kvs _ => RepT K H' O' xs kvs) ?_ ?_ ?_ ?_ ?_ ?_ ?_ ?_ ?_ ?_ ?_ ?_ ?_ ?_ ?_ v d h
  · exact .non
  · exact fun b => .bl b
  · exact fun i => .int i
  · exact fun x => .str x
  · exact fun a _ ih => .lst (a.ext e) ih
  · exact fun a _ ih => .tup (a.ext e) ih
  · exact fun {a kvs} hd n ih => .dct (ih n) fun q => (e.own a q).elim n fun y => by
      obtain ⟨o, z⟩ := hd.there
      rw [z] at y; cases y
  · exact .nil
  · exact fun _ _ ih ih2 => .cons ih ih2
  · exact fun h _ ih n => .k (h.to fun o q => e.keep _ _ q n) ih
  · exact fun h _ ih n => .t (h.to fun o q => e.keep _ _ q n) ih
  · exact .nil
  · exact fun _ _ ih ih2 => .cons ih ih2
  · exact .nil
  · exact fun _ k r _ _ ih ih2 ih3 => .cons ih k r ih2 ih3
theorem RepAll.ext (e : Ext H O H' O') : ∀ {ds : List PyData} {vs : List V}, RepAll K H O vs ds → RepAll K H' O' vs ds
  | [], _, h => by cases h; exact .nil
  | d :: ds, _, h => by
    cases h with
    | cons a b => exact .cons (Rep.ext e a) (RepAll.ext e b)
theorem RepI.ext (e : Ext H O H' O') : ∀ {kvs : List (PyData × PyData)} {es : List (Key × V)}, RepI K H O es kvs → RepI K H' O' es kvs
  | [], _, h => by cases h; exact .nil
  | p :: kvs, _, h => by
    cases h with
    | cons a b => exact .cons (Rep.ext e a) (RepI.ext e b)
theorem RepT.ext (e : Ext H O H' O') : ∀ {kvs : List (PyData × PyData)} {xs : List TRow}, RepT K H O xs kvs → RepT K H' O' xs kvs
  | [], _, h => by cases h; exact .nil
  | p :: kvs, _, h => by
    cases h with
    | cons a k r b c => exact .cons (Rep.ext e a) k r (Rep.ext e b) (RepT.ext e c)
/-- a dict whose object stays -/
theorem DAt.ext {z a kvs} (e : Ext H O H' O') (h : DAt K H O z a kvs) (k : ∀ o, H a = some o → H' a = some o) : DAt K H' O' z a kvs := by
  cases h with
  | k h r => exact .k (h.to k) (r.ext e)
  | t h r => exact .t (h.to k) (r.ext e)
theorem Reps.ext {vs ds} (e : Ext H O H' O') (h : Reps K H O vs ds) : Reps K H' O' vs ds := Paired.mono (fun _ _ r => r.ext e) h
/-- a borrowed value: its own list may be one that may still change -/
def RepB (K : Kw) (H : Hp) (O : Addr → Prop) (v : V) (d : PyData) : Prop :=
  Rep K H O v d ∨ (∃ a xs ds, v = .ref a ∧ d = .list ds ∧ SqL K.1 H a xs ∧ Reps K H O xs ds) ∨ ∃ z a kvs, v = .ref a ∧ d = .dict kvs ∧ DAt K H O z a kvs
theorem Rep.b {v d} (h : Rep K H O v d) : RepB K H O v d := .inl h
theorem RepB.same {v d} (s : Same H H') (h : RepB K H O v d) : RepB K H' O v d := by
  rcases h with h | ⟨a, xs, ds, e1, e2, h, r⟩ | ⟨z, a, kvs, e1, e2, h⟩
  · exact .inl (h.ext (Ext.same s))
  · exact .inr (.inl ⟨a, xs, ds, e1, e2, s.seq h, r.ext (Ext.same s)⟩)
  · exact .inr (.inr ⟨z, a, kvs, e1, e2, h.ext (Ext.same s) fun o z => s a o z⟩)
theorem RepB.dp {v d} (h : RepB K H O v d) (p : d.plain = true) : Dp K.1 H v d := by
  rcases h with h | ⟨a, xs, ds, rfl, rfl, h, r⟩ | ⟨z, a, kvs, e1, rfl, h⟩
  · exact h.dp p
  · exact .lst h (RepAll.dp (RepAll.iff.mpr r) (by simpa only [PyData.plain] using p))
  · simp [PyData.plain] at p
theorem RepB.lst {v ds} (h : RepB K H O v (.list ds)) : ∃ a xs, v = .ref a ∧ SqL K.1 H a xs ∧ Reps K H O xs ds := by
  rcases h with h | ⟨a, xs, ds', rfl, e, h, r⟩ | ⟨_, _, _, _, e, _⟩
  · cases h with
    | lst a b => exact ⟨_, _, rfl, a.sql, RepAll.iff.mp b⟩
  · cases e; exact ⟨a, xs, rfl, h, r⟩
  · cases e
theorem RepB.tup {v ds} (h : RepB K H O v (.tuple ds)) : ∃ a xs, v = .ref a ∧ SqT K.1 H a xs ∧ Reps K H O xs ds := by
  rcases h with h | ⟨a, xs, ds', rfl, e, h, r⟩ | ⟨_, _, _, _, e, _⟩
  · cases h with
    | tup a b => exact ⟨_, _, rfl, a.sqt, RepAll.iff.mp b⟩
  · cases e
  · cases e
theorem RepB.int {v i} (h : RepB K H O v (.int i)) : v = .int i := by
  rcases h with h | ⟨a, xs, ds', rfl, e, h, r⟩ | ⟨_, _, _, _, e, _⟩
  · cases h; rfl
  · cases e
  · cases e
theorem RepB.bl {v i} (h : RepB K H O v (.bool i)) : v = .bl i := by
  rcases h with h | ⟨a, xs, ds', rfl, e, h, r⟩ | ⟨_, _, _, _, e, _⟩
  · cases h; rfl
  · cases e
  · cases e
theorem RepB.str {v i} (h : RepB K H O v (.str i)) : v = .str i := by
  rcases h with h | ⟨a, xs, ds', rfl, e, h, r⟩ | ⟨_, _, _, _, e, _⟩
  · cases h; rfl
  · cases e
  · cases e
theorem RepB.non {v} (h : RepB K H O v .none) : v = .non := by
  rcases h with h | ⟨a, xs, ds', rfl, e, h, r⟩ | ⟨_, _, _, _, e, _⟩
  · cases h; rfl
  · cases e
  · cases e
theorem RepB.dct {v kvs} (h : RepB K H O v (.dict kvs)) : ∃ z a, v = .ref a ∧ DAt K H O z a kvs := by
  rcases h with h | ⟨a, xs, ds', rfl, e, h, r⟩ | ⟨z, a, _, rfl, e, h⟩
  · cases h with
    | dct a n => exact ⟨_, _, rfl, a⟩
  · cases e
  · cases e; exact ⟨z, a, rfl, h⟩
end

/-! ### lists that go along -/
section
variable {α β γ : Type} {F : α → β → Prop}
theorem pr_append : ∀ {xs xs' : List α} {ys ys' : List β}, Paired F xs ys → Paired F xs' ys' → Paired F (xs ++ xs') (ys ++ ys')
  | _, _, _, _, .nil, h => h
  | _, _, _, _, .cons a b, h => .cons a (pr_append b h)
theorem pr_take : ∀ {xs : List α} {ys : List β} (n : Nat), Paired F xs ys → Paired F (xs.take n) (ys.take n)
  | _, _, 0, _ => .nil
  | _, _, _ + 1, .nil => .nil
  | _, _, n + 1, .cons a b => .cons a (pr_take n b)
theorem pr_drop : ∀ {xs : List α} {ys : List β} (n : Nat), Paired F xs ys → Paired F (xs.drop n) (ys.drop n)
  | _, _, 0, h => h
  | _, _, _ + 1, .nil => .nil
  | _, _, n + 1, .cons _ b => pr_drop n b
theorem pr_rev : ∀ {xs : List α} {ys : List β}, Paired F xs ys → Paired F xs.reverse ys.reverse
  | _, _, .nil => .nil
  | _, _, .cons a b => by
    rw [List.reverse_cons, List.reverse_cons]
    exact pr_append (pr_rev b) (.cons a .nil)
theorem pr_get : ∀ {xs : List α} {ys : List β} {i : Nat} {y : β}, Paired F xs ys → ys[i]? = some y → ∃ x, xs[i]? = some x ∧ F x y
  | _, _, _, _, .nil, h => by simp at h
  | _, _, 0, _, .cons a b, h => by
    simp only [List.getElem?_cons_zero, Option.some.injEq] at h
    subst h
    exact ⟨_, rfl, a⟩
  | _, _, i + 1, _, .cons a b, h => by
    simp only [List.getElem?_cons_succ] at h
    obtain ⟨x, e, f⟩ := pr_get b h
    exact ⟨x, by simpa using e, f⟩
theorem pr_getL : ∀ {xs : List α} {ys : List β} {i : Nat} {x : α}, Paired F xs ys → xs[i]? = some x → ∃ y, ys[i]? = some y ∧ F x y
  | _, _, _, _, .nil, h => by simp at h
  | _, _, 0, _, .cons a b, h => by
    simp only [List.getElem?_cons_zero, Option.some.injEq] at h
    subst h
    exact ⟨_, rfl, a⟩
  | _, _, i + 1, _, .cons a b, h => by
    simp only [List.getElem?_cons_succ] at h
    obtain ⟨x, e, f⟩ := pr_getL b h
    exact ⟨x, by simpa using e, f⟩
theorem pr_set : ∀ {xs : List α} {ys : List β} {x : α} {y : β} (i : Nat), Paired F xs ys → F x y → Paired F (xs.set i x) (ys.set i y)
  | _, _, _, _, _, .nil, _ => .nil
  | _, _, _, _, 0, .cons a b, h => .cons h b
  | _, _, _, _, i + 1, .cons a b, h => .cons a (pr_set i b h)
theorem pr_one {x : α} {y : β} (h : F x y) : Paired F [x] [y] := .cons h .nil
theorem pr_rep {xs : List α} {ys : List β} (h : Paired F xs ys) : ∀ n, Paired F (List.replicate n xs).flatten (List.replicate n ys).flatten
  | 0 => .nil
  | n + 1 => by
    rw [List.replicate_succ, List.replicate_succ, List.flatten_cons, List.flatten_cons]
    exact pr_append h (pr_rep h n)
theorem pr_nil_iff {xs : List α} {ys : List β} (h : Paired F xs ys) : xs = [] ↔ ys = [] := by
  cases h with
  | nil => exact ⟨fun _ => rfl, fun _ => rfl⟩
  | cons a b => exact ⟨(fun h => nomatch h), (fun h => nomatch h)⟩
end

/-! ### the frame -/
/-- what stood at the def's entry: the abstract heap, the callers' own objects -/
structure Gd where
  H0 : Hp
  O0 : Addr → Prop
  dom : ∀ a, O0 a → ∃ o, H0 a = some o
/-- the slots hold what the environment says -/
structure Good (K : Kw) (G : Gd) (O : Addr → Prop) (ρ : EnvD) (σ : St) (H : Hp) : Prop where
  len : ρ.length = σ.length
  same : Same G.H0 H
  sub : ∀ a, G.O0 a → O a
  dom : ∀ a, O a → ∃ o, H a = some o
  dat : ∀ (i : Nat) (d : PyData), ρ[i]? = some (.dat d) → ∃ v, σ[i]? = some (some v) ∧ Rep K H O v d
  ol : ∀ (i : Nat) (ds : List PyData), ρ[i]? = some (.ol ds) → ∃ a vs, σ[i]? = some (some (.ref a)) ∧ H a = some (.lst vs) ∧ Reps K H O vs ds ∧ O a ∧ G.H0 a = none
  fz : ∀ (i : Nat) (ds : List PyData), ρ[i]? = some (.fz ds) → ∃ a vs, σ[i]? = some (some (.ref a)) ∧ SqL K.1 G.H0 a vs ∧ Reps K H O vs ds
  od : ∀ (i : Nat) (kvs : List (PyData × PyData)), ρ[i]? = some (.od kvs) → ∃ a, σ[i]? = some (some (.ref a)) ∧ DAt K H O false a kvs ∧ O a ∧ G.H0 a = none
  fd : ∀ (i : Nat) (kvs : List (PyData × PyData)), ρ[i]? = some (.fd kvs) → ∃ z a o, σ[i]? = some (some (.ref a)) ∧ G.H0 a = some o ∧ DAt K H O z a kvs
  inj : ∀ (i j : Nat) (a : Addr) (x y : B), ρ[i]? = some x → ρ[j]? = some y → x.own = true → y.own = true → σ[i]? = some (some (.ref a)) → σ[j]? = some (some (.ref a)) → i = j
section
variable {K : Kw} {G : Gd} {O O' : Addr → Prop} {ρ : EnvD} {σ : St} {H H' : Hp}
theorem Good.to (g : Good K G O ρ σ H) (s : Same H H') : Good K G O ρ σ H' where
  len := g.len
  same := g.same.trans s
  sub := g.sub
  dom := fun a h => by
    obtain ⟨o, e⟩ := g.dom a h
    exact ⟨o, s a o e⟩
  dat := fun i d h => by
    obtain ⟨v, e, r⟩ := g.dat i d h
    exact ⟨v, e, r.ext (Ext.same s)⟩
  ol := fun i ds h => by
    obtain ⟨a, vs, e, h1, r, o, f⟩ := g.ol i ds h
    exact ⟨a, vs, e, s _ _ h1, r.ext (Ext.same s), o, f⟩
  fz := fun i ds h => by
    obtain ⟨a, vs, e, h1, r⟩ := g.fz i ds h
    exact ⟨a, vs, e, h1, r.ext (Ext.same s)⟩
  od := fun i kvs h => by
    obtain ⟨a, e, h1, o, f⟩ := g.od i kvs h
    exact ⟨a, e, h1.ext (Ext.same s) fun u z => s a u z, o, f⟩
  fd := fun i kvs h => by
    obtain ⟨z, a, o, e, h0, h1⟩ := g.fd i kvs h
    exact ⟨z, a, o, e, h0, h1.ext (Ext.same s) fun u z => s a u z⟩
  inj := g.inj
end
/-- for an expression: nothing that stands is changed; Hb: what stood, all lists of the slots within -/
structure GoodE (K : Kw) (Hb : Hp) (O : Addr → Prop) (ρ : EnvD) (σ : St) (H : Hp) : Prop where
  len : ρ.length = σ.length
  same : Same Hb H
  dom : ∀ a, O a → ∃ o, H a = some o
  dat : ∀ (i : Nat) (d : PyData), ρ[i]? = some (.dat d) → ∃ v, σ[i]? = some (some v) ∧ Rep K H O v d
  bor : ∀ (i : Nat) (ds : List PyData), (ρ[i]? = some (.ol ds) ∨ ρ[i]? = some (.fz ds)) → ∃ a vs, σ[i]? = some (some (.ref a)) ∧ SqL K.1 Hb a vs ∧ Reps K H O vs ds
  bod : ∀ (i : Nat) (kvs : List (PyData × PyData)), (ρ[i]? = some (.od kvs) ∨ ρ[i]? = some (.fd kvs)) → ∃ z a o, σ[i]? = some (some (.ref a)) ∧ Hb a = some o ∧ DAt K H O z a kvs
section
variable {K : Kw} {G : Gd} {Hb : Hp} {O O' : Addr → Prop} {ρ : EnvD} {σ : St} {H H' : Hp}
theorem GoodE.to (g : GoodE K Hb O ρ σ H) (s : Same H H') : GoodE K Hb O ρ σ H' where
  len := g.len
  same := g.same.trans s
  dom := fun a h => by
    obtain ⟨o, e⟩ := g.dom a h
    exact ⟨o, s a o e⟩
  dat := fun i d h => by
    obtain ⟨v, e, r⟩ := g.dat i d h
    exact ⟨v, e, r.ext (Ext.same s)⟩
  bor := fun i ds h => by
    obtain ⟨a, vs, e, h1, r⟩ := g.bor i ds h
    exact ⟨a, vs, e, h1, r.ext (Ext.same s)⟩
  bod := fun i kvs h => by
    obtain ⟨z, a, o, e, h0, h1⟩ := g.bod i kvs h
    exact ⟨z, a, o, e, h0, h1.ext (Ext.same s) fun u z => s a u z⟩
theorem Good.e (g : Good K G O ρ σ H) : GoodE K H O ρ σ H where
  len := g.len
  same := Same.refl H
  dom := g.dom
  dat := g.dat
  bor := fun i ds h => by
    rcases h with h | h
    · obtain ⟨a, vs, e, h1, r, _⟩ := g.ol i ds h
      exact ⟨a, vs, e, SqL.of h1, r⟩
    · obtain ⟨a, vs, e, h1, r⟩ := g.fz i ds h
      exact ⟨a, vs, e, g.same.seq h1, r⟩
  bod := fun i kvs h => by
    rcases h with h | h
    · obtain ⟨a, e, h1, _⟩ := g.od i kvs h
      obtain ⟨o, z⟩ := h1.there
      exact ⟨_, a, o, e, z, h1⟩
    · obtain ⟨z, a, o, e, h0, h1⟩ := g.fd i kvs h
      exact ⟨z, a, o, e, g.same a o h0, h1⟩
end
/-- what is wished of an error at the slots σ -/
def XW (X : Cx) (W : WX) (O : Addr → Prop) (σ : St) (H : Hp) : Err → Prop
  | .stuck => False
  | .exc n none => ∃ C, X.mg n = some (.ref C) ∧ ∀ H', Same H H' → W (.ref C) none σ H'
  | .exc n (some (f, p)) => ∃ C, X.mg n = some (.ref C) ∧ ∀ H' dd v, Same H H' → H' dd = some (.xd [((f : Str), v)]) → Rep X.kw H' O v p → W (.ref C) (some dd) σ H'
def Post (X : Cx) (W : WX) (O : Addr → Prop) (σ : St) (H : Hp) {α : Type} (r : Rs α) (P : α → Prop) : Prop :=
  match r with
  | .ok a => P a
  | .error e => XW X W O σ H e
section
variable {X : Cx} {W : WX} {O : Addr → Prop} {σ : St} {H H' : Hp} {α β : Type}
theorem XW.to {e : Err} (s : Same H H') (h : XW X W O σ H e) : XW X W O σ H' e := by
  match e, h with
  | .exc n none, ⟨C, hm, h⟩ => exact ⟨C, hm, fun H2 s2 => h H2 (s.trans s2)⟩
  | .exc n (some (f, p)), ⟨C, hm, h⟩ => exact ⟨C, hm, fun H2 dd v s2 => h H2 dd v (s.trans s2)⟩
theorem Post.bind {r : Rs α} {k : α → Rs β} {P : β → Prop} (h : Post X W O σ H (r >>= k) P) : Post X W O σ H r (fun a => Post X W O σ H (k a) P) := by
  cases r with
  | ok a => exact h
  | error e => exact h
theorem Post.imp {r : Rs α} {P P' : α → Prop} (h : Post X W O σ H r P) (f : ∀ a, r = .ok a → P a → P' a) : Post X W O σ H r P' := by
  cases r with
  | ok a => exact f a rfl h
  | error e => exact h
theorem Post.to {r : Rs α} {P P' : α → Prop} (s : Same H H') (h : Post X W O σ H r P) (f : ∀ a, P a → P' a) : Post X W O σ H' r P' := by
  cases r with
  | ok a => exact f a h
  | error e => exact XW.to s h
end

/-! ### the readings -/
section
variable (X : Cx) (W : WX)
def RE (c : DE) : TE := fun σ H Q => ∃ Hb ρ O, GoodE X.kw Hb O ρ σ H ∧ Post X W O σ H (c ρ) fun d => ∀ v H', Same H H' → Rep X.kw H' O v d → Q v H'
def RB (c : DE) : TE := fun σ H Q => ∃ Hb ρ O, GoodE X.kw Hb O ρ σ H ∧ Post X W O σ H (c ρ) fun d => ∀ v H', Same H H' → RepB X.kw H' O v d → Q v H'
/-- a new list -/
def RL (c : DL) : TE := fun σ H Q => ∃ Hb ρ O, GoodE X.kw Hb O ρ σ H ∧ Post X W O σ H (c ρ) fun ds => ∀ a vs H', Same H H' → H a = none → H' a = some (.lst vs) → Reps X.kw H' (fun b => O b ∨ b = a) vs ds → Q (.ref a) H'
def RT (c : DT) : TT := fun σ H Q => ∃ Hb ρ O, GoodE X.kw Hb O ρ σ H ∧ Post X W O σ H (c ρ) fun b => ∀ H', Same H H' → Q b H'
def RA (c : DL) : TA := fun σ H Q => ∃ Hb ρ O, GoodE X.kw Hb O ρ σ H ∧ Post X W O σ H (c ρ) fun ds => ∀ vs H', Same H H' → Reps X.kw H' O vs ds → Q vs H'
def RAB (c : DL) : TA := fun σ H Q => ∃ Hb ρ O, GoodE X.kw Hb O ρ σ H ∧ Post X W O σ H (c ρ) fun ds => ∀ vs H', Same H H' → Paired (RepB X.kw H' O) vs ds → Q vs H'
end
section
variable {X : Cx} {W : WX}
theorem pe_imp {e : Expr} {t t' : TE} (h : PE X e t) (i : ∀ σ H Q, t' σ H Q → t σ H Q) : PE X e t' := ⟨fun pins s σ H Q I q => h.run pins s σ H Q I (i σ H Q q)⟩
theorem pt_imp {e : Expr} {t t' : TT} (h : PT X e t) (i : ∀ σ H Q, t' σ H Q → t σ H Q) : PT X e t' := ⟨fun pins s σ H Q I q => h.run pins s σ H Q I (i σ H Q q)⟩
theorem pa_imp {e : List Expr} {t t' : TA} (h : PA X e t) (i : ∀ σ H Q, t' σ H Q → t σ H Q) : PA X e t' := ⟨fun pos pins s σ H Q I q => h.run pos pins s σ H Q I (i σ H Q q)⟩
theorem ps_imp {e : Stmt} {t t' : TS} (h : PS X e t) (i : ∀ D σ H, t' D σ H → t D σ H) : PS X e t' := ⟨fun pins s σ H D I q => h.run pins s σ H D I (i D σ H q)⟩
theorem pss_imp {e : List Stmt} {t t' : TS} (h : PSs X e t) (i : ∀ D σ H, t' D σ H → t D σ H) : PSs X e t' := ⟨fun pins s σ H D I q => h.run pins s σ H D I (i D σ H q)⟩
theorem re_b {e c} (h : PE X e (RE X W c)) : PE X e (RB X W c) := pe_imp h fun σ H Q ⟨Hb, ρ, O, g, p⟩ => ⟨Hb, ρ, O, g, p.imp fun d _ q v H' s r => q v H' s r.b⟩
theorem fresh_no {K : Kw} {Hb : Hp} {O : Addr → Prop} {ρ : EnvD} {σ : St} {H : Hp} {a : Addr} (g : GoodE K Hb O ρ σ H) (h : H a = none) : ¬ O a := fun z => by
  obtain ⟨o, e⟩ := g.dom a z
  rw [h] at e; cases e
/-- a new list as a value -/
def dLst (c : DL) : DE := fun ρ => (c ρ).map .list
theorem Post.map' {α β : Type} {O : Addr → Prop} {σ : St} {H : Hp} {r : Rs α} {f : α → β} {P : β → Prop} : Post X W O σ H (r.map f) P ↔ Post X W O σ H r (fun a => P (f a)) := by
  cases r <;> exact Iff.rfl
theorem rl_e {e c} (h : PE X e (RL X W c)) : PE X e (RE X W (dLst c)) := pe_imp h fun σ H Q ⟨Hb, ρ, O, g, p⟩ => ⟨Hb, ρ, O, g, (Post.map'.mp p).imp fun ds _ q a vs H' s n ha r => by
  refine q (.ref a) H' s (.lst ⟨ha, fresh_no g n⟩ (RepAll.iff.mpr (r.ext (Ext.less fun b z => .inl z))))⟩
end
end Den

set_option Elab.async false
set_option linter.all false
set_option maxRecDepth 100000
set_option maxHeartbeats 4000000
namespace Den
open PySem PySem.Spec PyProof.Rows L2

/-! ### rules by values, over data -/
abbrev OkO (O : Addr → Prop) (H : Hp) : Prop := ∀ a, O a → ∃ o, H a = some o
def Give (K : Kw) (H : Hp) (O : Addr → Prop) (r : Rs PyData) (Q : VK) : Prop := match r with
  | .ok d => ∀ v H', Same H H' → Rep K H' O v d → Q v H'
  | .error _ => False
def GiveL (K : Kw) (H : Hp) (O : Addr → Prop) (r : Rs (List PyData)) (Q : VK) : Prop := match r with
  | .ok ds => ∀ a vs H', Same H H' → H a = none → H' a = some (.lst vs) → Reps K H' (fun b => O b ∨ b = a) vs ds → Q (.ref a) H'
  | .error _ => False
section
variable {X : Cx}
theorem opr_imp {f : Value → Value → Sem Value} {r r' : R2} (h : OpR X f r) (i : ∀ x y H Q, r' x y H Q → r x y H Q) : OpR X f r' := fun pins s σ H x y v u Q I rx ry q => h pins s σ H x y v u Q I rx ry (i _ _ _ _ q)
theorem callr_imp {f : Value} {r r' : List V → Hp → VK → Prop} (h : CallR X f r) (i : ∀ vs H Q, r' vs H Q → r vs H Q) : CallR X f r' := fun pins s σ H xs us Q I rx q => h pins s σ H xs us Q I rx (i xs H Q q)
theorem ixr_imp {r r' : R2} (h : IxR X r) (i : ∀ x y H Q, r' x y H Q → r x y H Q) : IxR X r' := fun value slice pins s σ H x y v u Q I rx ry q hs => h value slice pins s σ H x y v u Q I rx ry (i _ _ _ _ q) hs
theorem slr_imp {r r' : V → Option Int → Option Int → Hp → VK → Prop} (h : SlR X r) (i : ∀ x l u H Q, r' x l u H Q → r x l u H Q) : SlR X r' := fun pins s σ H x v vl vu lo hi sl Q I rx hs pl pu q => h pins s σ H x v vl vu lo hi sl Q I rx hs pl pu (i _ _ _ _ _ q)
theorem mtr_imp {id : String} {r r' : V → List V → Hp → VK → Prop} (h : MtR X id r) (i : ∀ x vs H Q, r' x vs H Q → r x vs H Q) : MtR X id r' := fun pins s σ H x xs v us Q I rx rxs q => h pins s σ H x xs v us Q I rx rxs (i x xs H Q q)
/-- an operator on two data -/
def OpD (X : Cx) (f : Value → Value → Sem Value) (g : PyData → PyData → Rs PyData) : Prop :=
  OpR X f fun x y H Q => ∃ O d e, OkO O H ∧ Rep X.kw H O x d ∧ Rep X.kw H O y e ∧ Give X.kw H O (g d e) Q
def OpB (X : Cx) (f : Value → Value → Sem Value) (g : PyData → PyData → Rs PyData) : Prop :=
  OpR X f fun x y H Q => ∃ O d e, OkO O H ∧ RepB X.kw H O x d ∧ RepB X.kw H O y e ∧ Give X.kw H O (g d e) Q
def IxB (X : Cx) (g : PyData → PyData → Rs PyData) : Prop :=
  IxR X fun x y H Q => ∃ O d e, OkO O H ∧ RepB X.kw H O x d ∧ RepB X.kw H O y e ∧ Give X.kw H O (g d e) Q
def CallB (X : Cx) (f : Value) (g : List PyData → Rs PyData) : Prop :=
  CallR X f fun vs H Q => ∃ O ds, OkO O H ∧ Paired (RepB X.kw H O) vs ds ∧ Give X.kw H O (g ds) Q
def CallL (X : Cx) (f : Value) (g : List PyData → Rs (List PyData)) : Prop :=
  CallR X f fun vs H Q => ∃ O ds, OkO O H ∧ Paired (RepB X.kw H O) vs ds ∧ GiveL X.kw H O (g ds) Q
theorem OpB.d {f g} (h : OpB X f g) : OpD X f g := opr_imp h fun x y H Q ⟨O, d, e, o, a, b, q⟩ => ⟨O, d, e, o, a.b, b.b, q⟩
end

/-! ### operators -/
/-- the length that nothing may pass -/
def okLen (n : Nat) : Bool := decide (n ≤ sizeLine)
def noneD : PyData → Bool
  | .none => true
  | _ => false
def addD : PyData → PyData → Rs PyData
  | .int i, .int j => .ok (.int (i + j))
  | .str x, .str y => if okLen (x.length + y.length) then .ok (.str (x ++ y)) else stuck
  | .tuple xs, .tuple ys => if okLen (xs.length + ys.length) then .ok (.tuple (xs ++ ys)) else stuck
  | .list xs, .list ys => if okLen (xs.length + ys.length) then .ok (.list (xs ++ ys)) else stuck
  | _, _ => stuck
def subD : PyData → PyData → Rs PyData
  | .int i, .int j => .ok (.int (i - j))
  | _, _ => stuck
def mulD : PyData → PyData → Rs PyData
  | .int i, .int j => if i.natAbs.log2 + j.natAbs.log2 < 1000000 then .ok (.int (i * j)) else stuck
  | .list xs, .int k => if -(2 ^ 63) ≤ k ∧ k < 2 ^ 63 ∧ xs.length * k.toNat ≤ sizeLine then .ok (.list (List.replicate k.toNat xs).flatten) else stuck
  | .tuple xs, .int k => if xs ≠ [] ∧ 2 ≤ k ∧ k ≤ 1000 ∧ xs.length ≤ 1000 then .ok (.tuple (List.replicate k.toNat xs).flatten) else stuck
  | _, _ => stuck
def fdivD : PyData → PyData → Rs PyData
  | .int i, .int j => if j ≠ 0 ∧ j.natAbs < 1073741824 then .ok (.int (i.fdiv j)) else stuck
  | _, _ => stuck
def modD : PyData → PyData → Rs PyData
  | .int i, .int j => if j ≠ 0 then .ok (.int (i.fmod j)) else stuck
  | _, _ => stuck
def powD : PyData → PyData → Rs PyData
  | .int i, .int j => if 0 ≤ j ∧ j ≤ 1000000 ∧ i.natAbs < 2 ^ 64 then .ok (.int (i ^ j.toNat)) else stuck
  | _, _ => stuck
def negD : PyData → Rs PyData
  | .int i => .ok (.int (-i))
  | _ => stuck
def eqD (d e : PyData) : Rs PyData := if SeqAt.shaped d && SeqAt.shaped e then .ok (.bool (PyData.eqv d e)) else stuck
def neD (d e : PyData) : Rs PyData := if SeqAt.shaped d && SeqAt.shaped e then .ok (.bool (!PyData.eqv d e)) else stuck
/-- a < b -/
def ltD : PyData → PyData → Rs PyData
  | .int i, .int j => .ok (.bool (decide (i < j)))
  | d, e => if !noneD d && (PySem.W.alike d e && (decide (d.depth ≤ 64) && (decide (e.depth ≤ 64) && (d.plain && e.plain)))) then .ok (.bool (PySem.W.dataLt d e)) else stuck
def leD : PyData → PyData → Rs PyData
  | .int i, .int j => .ok (.bool (decide (i ≤ j)))
  | _, _ => stuck
def gtD : PyData → PyData → Rs PyData
  | .int i, .int j => .ok (.bool (decide (j < i)))
  | _, _ => stuck
def geD : PyData → PyData → Rs PyData
  | .int i, .int j => .ok (.bool (decide (j ≤ i)))
  | _, _ => stuck
/-- x in y -/
def inD : PyData → PyData → Rs PyData
  | d, .list ds => if SeqAt.shaped d && SeqAt.shaped (.list ds) then .ok (.bool (ds.any fun z => PyData.eqv z d)) else stuck
  | d, .tuple ds => if SeqAt.shaped d && SeqAt.shaped (.tuple ds) then .ok (.bool (ds.any fun z => PyData.eqv z d)) else stuck
  | .str x, .str y => .ok (.bool (!(Builtin.Str.occurrences y x 0 y.length 1).isEmpty))
  | _, _ => stuck
def notInD (d e : PyData) : Rs PyData := do
  match ← inD d e with
  | .bool b => .ok (.bool (!b))
  | _ => stuck
def isD : PyData → PyData → Rs PyData
  | d, .none => .ok (.bool (noneD d))
  | _, _ => stuck
def isNotD : PyData → PyData → Rs PyData
  | d, .none => .ok (.bool (!noneD d))
  | _, _ => stuck

section
variable {X : Cx}
theorem pl_shaped {d : PyData} (h : SeqAt.shaped d = true) : d.plain = true := PyData.plain_of_canLay0 _ (SeqAt.canLay_of_shaped h)
theorem give_int {K H O Q} {i : Int} (h : Give K H O (.ok (.int i)) Q) : Q (.int i) H := h _ H (Same.refl H) (.int i)
theorem give_bl {K H O Q} {i : Bool} (h : Give K H O (.ok (.bool i)) Q) : Q (.bl i) H := h _ H (Same.refl H) (.bl i)
theorem give_str {K H O Q} {i : Str} (h : Give K H O (.ok (.str i)) Q) : Q (.str i) H := h _ H (Same.refl H) (.str i)
theorem give_rep {K H O Q} {v d} (h : Give K H O (.ok d) Q) (r : Rep K H O v d) : Q v H := h _ H (Same.refl H) r
theorem same_upd {H : Hp} {p : Addr} {o : HO} (h : H p = none) : Same H (upd H p o) := fun b x e => by
  rw [upd_ne (ne_of_none e h)]
  exact e
theorem no_own {O : Addr → Prop} {H : Hp} {p : Addr} (ok : OkO O H) (h : H p = none) : ¬ O p := fun z => by
  obtain ⟨o, e⟩ := ok p z
  rw [h] at e; cases e
theorem give_tup {K H O Q} {xs : List V} {ds : List PyData} (h : Give K H O (.ok (.tuple ds)) Q) (ok : OkO O H) (r : Reps K H O xs ds) : ∀ p, H p = none → Q (.ref p) (upd H p (.tup xs)) := fun p hp =>
  h _ _ (same_upd hp) (.tup (.inl ⟨.inl upd_same, no_own ok hp⟩) (RepAll.iff.mpr (r.ext (Ext.same (same_upd hp)))))
theorem give_lst {K H O Q} {xs : List V} {ds : List PyData} (h : Give K H O (.ok (.list ds)) Q) (ok : OkO O H) (r : Reps K H O xs ds) : ∀ p, H p = none → Q (.ref p) (upd H p (.lst xs)) := fun p hp =>
  h _ _ (same_upd hp) (.lst ⟨upd_same, no_own ok hp⟩ (RepAll.iff.mpr (r.ext (Ext.same (same_upd hp)))))
theorem ext_new {H : Hp} {O : Addr → Prop} {p : Addr} {o : HO} (hp : H p = none) : Ext H O (upd H p o) (fun b => O b ∨ b = p) :=
  ⟨fun a u h _ => same_upd hp a u h, fun a h => h.elim .inl fun e => .inr (e ▸ hp), fun a u h => ⟨u, same_upd hp a u h⟩⟩
theorem giveL_lst {K H O Q} {xs : List V} {ds : List PyData} (h : GiveL K H O (.ok ds) Q) (r : Reps K H O xs ds) : ∀ p, H p = none → Q (.ref p) (upd H p (.lst xs)) := fun p hp =>
  h p xs _ (same_upd hp) hp upd_same (r.ext (ext_new hp))
theorem op_addD : OpD X (binaryOp .Add) addD := by
  refine opr_imp (op_add.or (op_add_str.or (op_catA.or op_cat))) fun x y H Q ⟨O, d, e, ok, rx, ry, q⟩ => ?_
  cases rx with
  | int i =>
    cases ry with
    | int j => exact .inl ⟨i, j, rfl, rfl, give_int q⟩
    | _ => exact q.elim
  | str a =>
    cases ry with
    | str b =>
      simp only [addD] at q
      split at q
      · rename_i hl
        exact .inr (.inl ⟨a, b, rfl, rfl, of_decide_eq_true hl, give_str q⟩)
      · exact q.elim
    | _ => exact q.elim
  | @tup a xs ds hx rx =>
    cases ry with
    | @tup b ys es hy ry =>
      simp only [addD] at q
      split at q
      · rename_i hl
        have hl := of_decide_eq_true hl
        have r1 := RepAll.iff.mp rx
        have r2 := RepAll.iff.mp ry
        refine .inr (.inr (.inl ⟨a, b, xs, ys, rfl, rfl, hx.sqt, hy.sqt, ?_, fun z => ?_, fun _ z => ?_, ?_⟩))
        · rw [r1.length, r2.length]; exact hl
        · have e1 := (pr_nil_iff r1).mp z
          subst e1
          exact q _ H (Same.refl H) (.tup hy ry)
        · have e1 := (pr_nil_iff r2).mp z
          subst e1
          rw [List.append_nil] at q
          exact q _ H (Same.refl H) (.tup hx rx)
        · exact fun _ _ => give_tup q ok (pr_append r1 r2)
      · exact q.elim
    | _ => exact q.elim
  | @lst a xs ds hx rx =>
    cases ry with
    | @lst b ys es hy ry =>
      simp only [addD] at q
      split at q
      · rename_i hl
        have hl := of_decide_eq_true hl
        have r1 := RepAll.iff.mp rx
        have r2 := RepAll.iff.mp ry
        refine .inr (.inr (.inr ⟨a, b, xs, ys, rfl, rfl, hx.1, hy.1, ?_, give_lst q ok (pr_append r1 r2)⟩))
        rw [r1.length, r2.length]; exact hl
      · exact q.elim
    | _ => exact q.elim
  | _ => exact q.elim
end
end Den

set_option Elab.async false
set_option linter.all false
set_option maxRecDepth 100000
set_option maxHeartbeats 4000000
namespace Den
open PySem PySem.Spec PyProof.Rows L2
section
variable {X : Cx}
theorem op_subD : OpD X (binaryOp .Sub) subD := by
  refine opr_imp op_sub fun x y H Q ⟨O, d, e, ok, rx, ry, q⟩ => ?_
  cases rx with
  | int i =>
    cases ry with
    | int j => exact ⟨i, j, rfl, rfl, give_int q⟩
    | _ => exact q.elim
  | _ => exact q.elim
theorem op_fdivD : OpD X (binaryOp .FloorDiv) fdivD := by
  refine opr_imp op_fdivN fun x y H Q ⟨O, d, e, ok, rx, ry, q⟩ => ?_
  cases rx with
  | int i =>
    cases ry with
    | int j =>
      simp only [fdivD] at q
      split at q
      · rename_i h
        exact ⟨i, j, rfl, rfl, h, give_int q⟩
      · exact q.elim
    | _ => exact q.elim
  | _ => exact q.elim
theorem op_modD : OpD X (binaryOp .Mod) modD := by
  refine opr_imp op_modN fun x y H Q ⟨O, d, e, ok, rx, ry, q⟩ => ?_
  cases rx with
  | int i =>
    cases ry with
    | int j =>
      simp only [modD] at q
      split at q
      · rename_i h
        exact ⟨i, j, rfl, rfl, h, give_int q⟩
      · exact q.elim
    | _ => exact q.elim
  | _ => exact q.elim
theorem op_powD : OpD X (binaryOp .Pow) powD := by
  refine opr_imp op_pow fun x y H Q ⟨O, d, e, ok, rx, ry, q⟩ => ?_
  cases rx with
  | int i =>
    cases ry with
    | int j =>
      simp only [powD] at q
      split at q
      · rename_i h
        exact ⟨i, j, rfl, rfl, h, give_int q⟩
      · exact q.elim
    | _ => exact q.elim
  | _ => exact q.elim
/-- a value's operator -/
def UnD (X : Cx) (f : Value → Sem Value) (g : PyData → Rs PyData) : Prop := UnR X f fun x H Q => ∃ O d, OkO O H ∧ Rep X.kw H O x d ∧ Give X.kw H O (g d) Q
theorem unr_imp {f : Value → Sem Value} {r r' : V → Hp → VK → Prop} (h : UnR X f r) (i : ∀ x H Q, r' x H Q → r x H Q) : UnR X f r' := fun pins s σ H x v Q I rx q => h pins s σ H x v Q I rx (i _ _ _ q)
theorem un_negD : UnD X (unaryOp .USub) negD := by
  refine unr_imp un_neg fun x H Q ⟨O, d, ok, rx, q⟩ => ?_
  cases rx with
  | int i => exact ⟨i, rfl, give_int q⟩
  | _ => exact q.elim
theorem op_eqB (hu : X.A.units + 64 < cLine) : OpB X (compareOp .Eq) eqD := by
  refine opr_imp (op_eqD hu) fun x y H Q ⟨O, d, e, ok, rx, ry, q⟩ => ?_
  unfold eqD at q
  split at q
  · rename_i h
    rw [Bool.and_eq_true] at h
    exact ⟨d, e, rx.dp (pl_shaped h.1), ry.dp (pl_shaped h.2), h.1, h.2, give_bl q⟩
  · exact q.elim
theorem op_neB (hu : X.A.units + 64 < cLine) : OpB X (compareOp .NotEq) neD := by
  refine opr_imp (op_neD hu) fun x y H Q ⟨O, d, e, ok, rx, ry, q⟩ => ?_
  unfold neD at q
  split at q
  · rename_i h
    rw [Bool.and_eq_true] at h
    exact ⟨d, e, rx.dp (pl_shaped h.1), ry.dp (pl_shaped h.2), h.1, h.2, give_bl q⟩
  · exact q.elim
theorem op_ltA (hu : X.A.units + 64 < cLine) : OpR X (compareOp .Lt) (fun x y H Q => ∃ d e, Dp X.K H x d ∧ Dp X.K H y e ∧ d ≠ .none ∧ PySem.W.alike d e = true ∧ d.depth ≤ 64 ∧ Q (.bl (PySem.W.dataLt d e)) H) := by
  intro pins s σ H x y v u Q I rx ry ⟨d, e, hd, he, hn, ha, hdp, q⟩
  obtain ⟨as, r1⟩ := Dp.reads I d x v hd rx
  obtain ⟨bs, r2⟩ := Dp.reads I e y u he ry
  exact PySem.W.rcLt_alike d e X.A s v u as bs r1 r2 ha hn (by omega) X.prog X.w X.xe _ ⟨.bl _, H, I, rfl, q⟩
theorem op_ltB (hu : X.A.units + 64 < cLine) : OpB X (compareOp .Lt) ltD := by
  refine opr_imp (op_lt.or (op_ltA hu)) fun x y H Q ⟨O, d, e, ok, rx, ry, q⟩ => ?_
  have gen : ∀ {d e : PyData}, RepB X.kw H O x d → RepB X.kw H O y e → Give X.kw H O (if !noneD d && (PySem.W.alike d e && (decide (d.depth ≤ 64) && (decide (e.depth ≤ 64) && (d.plain && e.plain)))) then .ok (.bool (PySem.W.dataLt d e)) else stuck) Q →
      ∃ d e, Dp X.K H x d ∧ Dp X.K H y e ∧ d ≠ .none ∧ PySem.W.alike d e = true ∧ d.depth ≤ 64 ∧ Q (.bl (PySem.W.dataLt d e)) H := by
    intro d e rx ry q
    split at q
    · rename_i h
      simp only [Bool.and_eq_true, decide_eq_true_eq] at h
      refine ⟨d, e, rx.dp h.2.2.2.2.1, ry.dp h.2.2.2.2.2, ?_, h.2.1, h.2.2.1, give_bl q⟩
      rintro rfl
      exact absurd h.1 (by decide)
    · exact q.elim
  unfold ltD at q
  split at q
  · obtain rfl := rx.int
    obtain rfl := ry.int
    exact .inl ⟨_, _, rfl, rfl, give_bl q⟩
  · exact .inr (gen rx ry q)
theorem op_leB : OpB X (compareOp .LtE) leD := by
  refine opr_imp op_le fun x y H Q ⟨O, d, e, ok, rx, ry, q⟩ => ?_
  unfold leD at q
  split at q
  · obtain rfl := rx.int
    obtain rfl := ry.int
    exact ⟨_, _, rfl, rfl, give_bl q⟩
  · exact q.elim
theorem op_gtB : OpB X (compareOp .Gt) gtD := by
  refine opr_imp op_gt fun x y H Q ⟨O, d, e, ok, rx, ry, q⟩ => ?_
  unfold gtD at q
  split at q
  · obtain rfl := rx.int
    obtain rfl := ry.int
    exact ⟨_, _, rfl, rfl, give_bl q⟩
  · exact q.elim
theorem op_geB : OpB X (compareOp .GtE) geD := by
  refine opr_imp op_ge fun x y H Q ⟨O, d, e, ok, rx, ry, q⟩ => ?_
  unfold geD at q
  split at q
  · obtain rfl := rx.int
    obtain rfl := ry.int
    exact ⟨_, _, rfl, rfl, give_bl q⟩
  · exact q.elim
theorem op_inTup (hu : X.A.units + 65 < cLine) : OpR X (compareOp .In) (fun x y H Q => ∃ d ds, Dp X.K H x d ∧ Dp X.K H y (.tuple ds) ∧ SeqAt.shaped d = true ∧ SeqAt.shaped (.tuple ds) = true ∧ Q (.bl (ds.any fun z => PyData.eqv z d)) H) := by
  intro pins s σ H x y v u Q I rx ry ⟨d, ds, hd, he, sd, se, q⟩
  obtain ⟨as, r1⟩ := Dp.reads I d x v hd rx
  obtain ⟨bs, r2⟩ := Dp.reads I (.tuple ds) y u he ry
  exact SeqAt.in_tuple_reads r2 r1 (SeqAt.canLay_of_shaped se) (SeqAt.canLay_of_shaped sd) (room_in_shaped sd hu) ⟨.bl _, H, I, rfl, q⟩
theorem op_notInTup (hu : X.A.units + 65 < cLine) : OpR X (compareOp .NotIn) (fun x y H Q => ∃ d ds, Dp X.K H x d ∧ Dp X.K H y (.tuple ds) ∧ SeqAt.shaped d = true ∧ SeqAt.shaped (.tuple ds) = true ∧ Q (.bl (!ds.any fun z => PyData.eqv z d)) H) := by
  intro pins s σ H x y v u Q I rx ry ⟨d, ds, hd, he, sd, se, q⟩
  obtain ⟨as, r1⟩ := Dp.reads I d x v hd rx
  obtain ⟨bs, r2⟩ := Dp.reads I (.tuple ds) y u he ry
  exact SeqAt.notIn_tuple_reads r2 r1 (SeqAt.canLay_of_shaped se) (SeqAt.canLay_of_shaped sd) (room_in_shaped sd hu) ⟨.bl _, H, I, rfl, q⟩
theorem op_inB (hu : X.A.units + 65 < cLine) : OpB X (compareOp .In) inD := by
  refine opr_imp (op_in_str.or ((op_inD hu).or (op_inTup hu))) fun x y H Q ⟨O, d, e, ok, rx, ry, q⟩ => ?_
  unfold inD at q
  split at q
  · split at q
    · rename_i h
      rw [Bool.and_eq_true] at h
      exact .inr (.inl ⟨_, _, rx.dp (pl_shaped h.1), ry.dp (pl_shaped h.2), h.1, h.2, give_bl q⟩)
    · exact q.elim
  · split at q
    · rename_i h
      rw [Bool.and_eq_true] at h
      exact .inr (.inr ⟨_, _, rx.dp (pl_shaped h.1), ry.dp (pl_shaped h.2), h.1, h.2, give_bl q⟩)
    · exact q.elim
  · obtain rfl := rx.str
    obtain rfl := ry.str
    exact .inl ⟨_, _, rfl, rfl, give_bl q⟩
  · exact q.elim
theorem op_notInB (hu : X.A.units + 65 < cLine) : OpB X (compareOp .NotIn) notInD := by
  refine opr_imp (L2.op_notin_str.or ((op_notInD hu).or (op_notInTup hu))) fun x y H Q ⟨O, d, e, ok, rx, ry, q⟩ => ?_
  unfold notInD inD at q
  split at q
  · split at q
    · rename_i h
      rw [Bool.and_eq_true] at h
      exact .inr (.inl ⟨_, _, rx.dp (pl_shaped h.1), ry.dp (pl_shaped h.2), h.1, h.2, give_bl q⟩)
    · exact q.elim
  · split at q
    · rename_i h
      rw [Bool.and_eq_true] at h
      exact .inr (.inr ⟨_, _, rx.dp (pl_shaped h.1), ry.dp (pl_shaped h.2), h.1, h.2, give_bl q⟩)
    · exact q.elim
  · obtain rfl := rx.str
    obtain rfl := ry.str
    exact .inl ⟨_, _, rfl, rfl, give_bl q⟩
  · exact q.elim
theorem RepB.non_iff {K H O v d} (h : RepB K H O v d) : decide (v = .non) = noneD d := by
  rcases h with h | ⟨a, xs, ds', rfl, rfl, h, r⟩ | ⟨z, a, kvs, rfl, rfl, h⟩
  · cases h <;> simp [noneD]
  · simp [noneD]
  · simp [noneD]
theorem op_isB : OpB X (compareOp .Is) isD := by
  refine opr_imp op_isN fun x y H Q ⟨O, d, e, ok, rx, ry, q⟩ => ?_
  unfold isD at q
  split at q
  · refine ⟨ry.non, ?_⟩
    rw [rx.non_iff]
    exact give_bl q
  · exact q.elim
theorem op_isNotB : OpB X (compareOp .IsNot) isNotD := by
  refine opr_imp op_notN fun x y H Q ⟨O, d, e, ok, rx, ry, q⟩ => ?_
  unfold isNotD at q
  split at q
  · refine ⟨ry.non, ?_⟩
    rw [rx.non_iff]
    exact give_bl q
  · exact q.elim
end

/-! ### built-ins by their arguments -/
def lenD : List PyData → Rs PyData
  | [.list xs] => .ok (.int xs.length)
  | [.tuple xs] => .ok (.int xs.length)
  | [.str x] => if okLen x.length then .ok (.int x.length) else stuck
  | _ => stuck
def absD : List PyData → Rs PyData
  | [.int i] => .ok (.int (if i < 0 then -i else i))
  | _ => stuck
def max2 (i j : Int) : Int := if j > i then j else i
def min2 (i j : Int) : Int := if j < i then j else i
def intD : List PyData → Rs PyData
  | [.int i] => .ok (.int i)
  | _ => stuck
def isinstD (n : String) : PyData → Bool
  | .none => false
  | .bool _ => n == "int" || n == "bool"
  | .int _ => n == "int"
  | .str _ => n == "str"
  | .list _ => n == "list"
  | .tuple _ => n == "tuple"
  | .dict _ => n == "dict"
def intsOf : List PyData → Option (List Int)
  | [] => some []
  | .int i :: r => (intsOf r).map (i :: ·)
  | _ :: _ => none
def boolsOf : List PyData → Option (List Bool)
  | [] => some []
  | .bool i :: r => (boolsOf r).map (i :: ·)
  | _ :: _ => none
def sumD : List PyData → Rs PyData
  | [.list xs] => match intsOf xs with
    | some ns => .ok (.int ns.sum)
    | none => stuck
  | _ => stuck
def allD : List PyData → Rs PyData
  | [.list xs] => match boolsOf xs with
    | some ns => .ok (.bool (ns.all id))
    | none => stuck
  | _ => stuck
def anyD : List PyData → Rs PyData
  | [.list xs] => match boolsOf xs with
    | some ns => .ok (.bool (ns.any id))
    | none => stuck
  | _ => stuck
def tupleD : List PyData → Rs PyData
  | [.list xs] => .ok (.tuple xs)
  | [.tuple xs] => .ok (.tuple xs)
  | _ => stuck
def listD : List PyData → Rs (List PyData)
  | [.list xs] => .ok xs
  | [.tuple xs] => .ok xs
  | _ => stuck
section
variable {X : Cx}
theorem reps1 {K H O} {vs : List V} {d : PyData} (h : Paired (RepB K H O) vs [d]) : ∃ v, vs = [v] ∧ RepB K H O v d := by
  cases h with
  | cons a b => cases b; exact ⟨_, rfl, a⟩
theorem reps2 {K H O} {vs : List V} {d e : PyData} (h : Paired (RepB K H O) vs [d, e]) : ∃ v w, vs = [v, w] ∧ RepB K H O v d ∧ RepB K H O w e := by
  cases h with
  | cons a b =>
    cases b with
    | cons b c => cases c; exact ⟨_, _, rfl, a, b⟩
theorem call_lenB : CallB X (.builtin "len") lenD := by
  refine callr_imp (call_len_seq.or call_len_str) fun vs H Q ⟨O, ds, ok, r, q⟩ => ?_
  unfold lenD at q
  split at q
  · obtain ⟨v, rfl, r1⟩ := reps1 r
    obtain ⟨a, xs, rfl, h, r⟩ := r1.lst
    refine .inl ⟨a, xs, rfl, .inl h, ?_⟩
    rw [r.length]; exact give_int q
  · obtain ⟨v, rfl, r1⟩ := reps1 r
    obtain ⟨a, xs, rfl, h, r⟩ := r1.tup
    refine .inl ⟨a, xs, rfl, .inr h, ?_⟩
    rw [r.length]; exact give_int q
  · split at q
    · rename_i hl
      obtain ⟨v, rfl, r1⟩ := reps1 r
      obtain rfl := r1.str
      exact .inr ⟨_, rfl, of_decide_eq_true hl, give_int q⟩
    · exact q.elim
  · exact q.elim
theorem call_absB : CallB X (.builtin "abs") absD := by
  refine callr_imp call_abs fun vs H Q ⟨O, ds, ok, r, q⟩ => ?_
  unfold absD at q
  split at q
  · obtain ⟨v, rfl, r1⟩ := reps1 r
    obtain rfl := r1.int
    exact ⟨_, rfl, give_int q⟩
  · exact q.elim
theorem call_intB : CallB X (.type "int") intD := by
  refine callr_imp call_int1 fun vs H Q ⟨O, ds, ok, r, q⟩ => ?_
  unfold intD at q
  split at q
  · obtain ⟨v, rfl, r1⟩ := reps1 r
    obtain rfl := r1.int
    exact .inl ⟨_, rfl, give_int q⟩
  · exact q.elim
theorem reps_ints {K H O} : ∀ {xs : List V} {ds : List PyData} {ns : List Int}, Reps K H O xs ds → intsOf ds = some ns → xs = ns.map V.int
  | _, [], ns, r, e => by
    cases r
    cases e
    rfl
  | _, d :: ds, ns, r, e => by
    cases r with
    | cons a b =>
      cases a with
      | int i =>
        simp only [intsOf, Option.map_eq_some_iff] at e
        obtain ⟨ms, e1, rfl⟩ := e
        rw [reps_ints b e1]
        rfl
      | _ => simp [intsOf] at e
theorem reps_bools {K H O} : ∀ {xs : List V} {ds : List PyData} {ns : List Bool}, Reps K H O xs ds → boolsOf ds = some ns → xs = ns.map V.bl
  | _, [], ns, r, e => by
    cases r
    cases e
    rfl
  | _, d :: ds, ns, r, e => by
    cases r with
    | cons a b =>
      cases a with
      | bl i =>
        simp only [boolsOf, Option.map_eq_some_iff] at e
        obtain ⟨ms, e1, rfl⟩ := e
        rw [reps_bools b e1]
        rfl
      | _ => simp [boolsOf] at e
theorem call_sumB (hc : X.calm = true) : CallB X (.builtin "sum") sumD := by
  refine callr_imp (cr_sum hc) fun vs H Q ⟨O, ds, ok, r, q⟩ => ?_
  unfold sumD at q
  split at q
  · split at q
    · rename_i ns e
      obtain ⟨v, rfl, r1⟩ := reps1 r
      obtain ⟨a, xs, rfl, h, r⟩ := r1.lst
      obtain rfl := reps_ints r e
      exact ⟨a, ns, rfl, h, give_int q⟩
    · exact q.elim
  · exact q.elim
theorem call_allB (hc : X.calm = true) : CallB X (.builtin "all") allD := by
  refine callr_imp (cr_all hc) fun vs H Q ⟨O, ds, ok, r, q⟩ => ?_
  unfold allD at q
  split at q
  · split at q
    · rename_i ns e
      obtain ⟨v, rfl, r1⟩ := reps1 r
      obtain ⟨a, xs, rfl, h, r⟩ := r1.lst
      obtain rfl := reps_bools r e
      exact ⟨a, ns, rfl, h, give_bl q⟩
    · exact q.elim
  · exact q.elim
theorem call_anyB (hc : X.calm = true) : CallB X (.builtin "any") anyD := by
  refine callr_imp (cr_any hc) fun vs H Q ⟨O, ds, ok, r, q⟩ => ?_
  unfold anyD at q
  split at q
  · split at q
    · rename_i ns e
      obtain ⟨v, rfl, r1⟩ := reps1 r
      obtain ⟨a, xs, rfl, h, r⟩ := r1.lst
      obtain rfl := reps_bools r e
      exact ⟨a, ns, rfl, h, give_bl q⟩
    · exact q.elim
  · exact q.elim
theorem RepB.tupR {K H O v ds} (h : RepB K H O v (.tuple ds)) : Rep K H O v (.tuple ds) := by
  rcases h with h | ⟨a, xs, ds', rfl, e, h, r⟩ | ⟨_, _, _, _, e, _⟩
  · exact h
  · cases e
  · cases e
theorem call_tupleB : CallB X (.type "tuple") tupleD := by
  refine callr_imp call_tuple_of fun vs H Q ⟨O, ds, ok, r, q⟩ => ?_
  unfold tupleD at q
  split at q
  · obtain ⟨v, rfl, r1⟩ := reps1 r
    obtain ⟨a, xs, rfl, h, r⟩ := r1.lst
    exact ⟨a, xs, rfl, .inl ⟨h, give_tup q ok r⟩⟩
  · obtain ⟨v, rfl, r1⟩ := reps1 r
    have r0 := r1.tupR
    obtain ⟨a, xs, rfl, h, r⟩ := r1.tup
    exact ⟨a, xs, rfl, .inr ⟨h, give_rep q r0⟩⟩
  · exact q.elim
theorem call_listL : CallL X (.type "list") listD := by
  refine callr_imp call_list_of fun vs H Q ⟨O, ds, ok, r, q⟩ => ?_
  unfold listD at q
  split at q
  · obtain ⟨v, rfl, r1⟩ := reps1 r
    obtain ⟨a, xs, rfl, h, r⟩ := r1.lst
    exact ⟨a, xs, rfl, .inl h, giveL_lst q r⟩
  · obtain ⟨v, rfl, r1⟩ := reps1 r
    obtain ⟨a, xs, rfl, h, r⟩ := r1.tup
    exact ⟨a, xs, rfl, .inr h, giveL_lst q r⟩
  · exact q.elim
end
end Den

set_option Elab.async false
set_option linter.all false
set_option maxRecDepth 100000
set_option maxHeartbeats 4000000
namespace Den
open PySem PySem.Spec PyProof.Rows L2

/-! ### expressions -/
def dLit (d : PyData) : DE := fun _ => .ok d
def dVar (i : Nat) : DE := fun ρ => match ρ[i]? with
  | some (.dat d) => .ok d
  | _ => stuck
def dVarB (i : Nat) : DE := fun ρ => match ρ[i]? with
  | some (.dat d) => .ok d
  | some (.ol l) => .ok (.list l)
  | some (.fz l) => .ok (.list l)
  | some (.od kvs) => .ok (.dict kvs)
  | some (.fd kvs) => .ok (.dict kvs)
  | _ => stuck
def dOp2 (f : PyData → PyData → Rs PyData) (a b : DE) : DE := fun ρ => a ρ >>= fun x => b ρ >>= fun y => f x y
def dOp1 (f : PyData → Rs PyData) (a : DE) : DE := fun ρ => a ρ >>= f
def dCall (f : List PyData → Rs PyData) (as : DL) : DE := fun ρ => as ρ >>= f
def dCallL (f : List PyData → Rs (List PyData)) (as : DL) : DL := fun ρ => as ρ >>= f
def dNil : DL := fun _ => .ok []
def dCons (a : DE) (as : DL) : DL := fun ρ => a ρ >>= fun x => as ρ >>= fun xs => .ok (x :: xs)
def dTup (as : DL) : DE := fun ρ => as ρ >>= fun xs => if okLen xs.length then .ok (.tuple xs) else stuck
def dList (as : DL) : DL := fun ρ => as ρ >>= fun xs => if okLen xs.length then .ok xs else stuck
def boolD : PyData → Rs Bool
  | .bool b => .ok b
  | _ => stuck
def tVal (a : DE) : DT := fun ρ => a ρ >>= boolD
def tAndD (a b : DT) : DT := fun ρ => a ρ >>= fun x => if x then b ρ else .ok false
def tOrD (a b : DT) : DT := fun ρ => a ρ >>= fun x => if x then .ok true else b ρ
def tNotD (a : DT) : DT := fun ρ => a ρ >>= fun x => .ok (!x)
def dIf (t : DT) (a b : DE) : DE := fun ρ => t ρ >>= fun x => if x then a ρ else b ρ
def dAndV (a b : DE) : DE := fun ρ => a ρ >>= boolD >>= fun x => if x then b ρ else .ok (.bool false)
def dOrV (a b : DE) : DE := fun ρ => a ρ >>= boolD >>= fun x => if x then .ok (.bool true) else b ρ
def dNotV (a : DE) : DE := fun ρ => a ρ >>= boolD >>= fun x => .ok (.bool (!x))
def dChain (f g : PyData → PyData → Rs PyData) (a b c : DE) : DE := fun ρ => a ρ >>= fun x => b ρ >>= fun y => f x y >>= boolD >>= fun t => if t then c ρ >>= fun z => g y z else .ok (.bool false)
def isiD (n : String) : PyData → Rs PyData
  | .dict _ => stuck
  | x => .ok (.bool (isinstD n x))
def dIsi (n : String) (a : DE) : DE := fun ρ => a ρ >>= isiD n

section
variable {X : Cx} {W : WX} {a b c e : Expr} {es : List Expr} {pos : Pos} {ca cb cc : DE} {cs : DL} {ta tb : DT}
/-! reading steps -/
theorem RE.go {Hb ρ O σ H Q} (g : GoodE X.kw Hb O ρ σ H) {c : DE} {k : PyData → Rs PyData} {P : PyData → Prop} (p : Post X W O σ H (c ρ >>= k) P)
    (q : ∀ d v H', GoodE X.kw Hb O ρ σ H' → Same H H' → Rep X.kw H' O v d → Post X W O σ H' (k d) P → Q v H') : RE X W c σ H Q :=
  ⟨Hb, ρ, O, g, p.bind.imp fun d _ p v H' s r => q d v H' (g.to s) s r (p.to s fun _ z => z)⟩
theorem RB.go {Hb ρ O σ H Q} (g : GoodE X.kw Hb O ρ σ H) {c : DE} {α : Type} {k : PyData → Rs α} {P : α → Prop} (p : Post X W O σ H (c ρ >>= k) P)
    (q : ∀ d v H', GoodE X.kw Hb O ρ σ H' → Same H H' → RepB X.kw H' O v d → Post X W O σ H' (k d) P → Q v H') : RB X W c σ H Q :=
  ⟨Hb, ρ, O, g, p.bind.imp fun d _ p v H' s r => q d v H' (g.to s) s r (p.to s fun _ z => z)⟩
theorem RE.go' {Hb ρ O σ H Q} (g : GoodE X.kw Hb O ρ σ H) {c : DE} {α : Type} {k : PyData → Rs α} {P : α → Prop} (p : Post X W O σ H (c ρ >>= k) P)
    (q : ∀ d v H', GoodE X.kw Hb O ρ σ H' → Same H H' → Rep X.kw H' O v d → Post X W O σ H' (k d) P → Q v H') : RE X W c σ H Q :=
  ⟨Hb, ρ, O, g, p.bind.imp fun d _ p v H' s r => q d v H' (g.to s) s r (p.to s fun _ z => z)⟩
theorem RT.go {Hb ρ O σ H Q} (g : GoodE X.kw Hb O ρ σ H) {c : DT} {α : Type} {k : Bool → Rs α} {P : α → Prop} (p : Post X W O σ H (c ρ >>= k) P)
    (q : ∀ d H', GoodE X.kw Hb O ρ σ H' → Same H H' → Post X W O σ H' (k d) P → Q d H') : RT X W c σ H Q :=
  ⟨Hb, ρ, O, g, p.bind.imp fun d _ p H' s => q d H' (g.to s) s (p.to s fun _ z => z)⟩
theorem RA.go {Hb ρ O σ H Q} (g : GoodE X.kw Hb O ρ σ H) {c : DL} {α : Type} {k : List PyData → Rs α} {P : α → Prop} (p : Post X W O σ H (c ρ >>= k) P)
    (q : ∀ d v H', GoodE X.kw Hb O ρ σ H' → Same H H' → Reps X.kw H' O v d → Post X W O σ H' (k d) P → Q v H') : RA X W c σ H Q :=
  ⟨Hb, ρ, O, g, p.bind.imp fun d _ p v H' s r => q d v H' (g.to s) s r (p.to s fun _ z => z)⟩
theorem RAB.go {Hb ρ O σ H Q} (g : GoodE X.kw Hb O ρ σ H) {c : DL} {α : Type} {k : List PyData → Rs α} {P : α → Prop} (p : Post X W O σ H (c ρ >>= k) P)
    (q : ∀ d v H', GoodE X.kw Hb O ρ σ H' → Same H H' → Paired (RepB X.kw H' O) v d → Post X W O σ H' (k d) P → Q v H') : RAB X W c σ H Q :=
  ⟨Hb, ρ, O, g, p.bind.imp fun d _ p v H' s r => q d v H' (g.to s) s r (p.to s fun _ z => z)⟩
/-- what a rule by values is given -/
theorem Post.give {O : Addr → Prop} {σ : St} {H H0 : Hp} {r : Rs PyData} {Q : VK} (hx : ∀ n p, r ≠ .error (.exc n p)) (s0 : Same H0 H) (p : Post X W O σ H r fun d => ∀ v H', Same H0 H' → Rep X.kw H' O v d → Q v H') : Give X.kw H O r Q := by
  cases r with
  | ok d => exact fun v H' s r => p v H' (s0.trans s) r
  | error e =>
    cases e with
    | stuck => exact p
    | exc n q => exact absurd rfl (hx n q)

/-- never an own error -/
def Quiet {α : Type} (r : Rs α) : Prop := ∀ n p, r ≠ .error (.exc n p)
theorem re_op {op : Operator} {f : PyData → PyData → Rs PyData} (ho : OpD X (binaryOp op) f) (hq : ∀ x y, Quiet (f x y)) (ha : PE X a (RE X W ca)) (hb : PE X b (RE X W cb)) : PE X (.BinOp a op b pos) (RE X W (dOp2 f ca cb)) :=
  pe_imp (pe_op ho ha hb) fun σ H Q ⟨Hb, ρ, O, g, p⟩ => RE.go g p fun d v H1 g1 s1 r1 p1 => RE.go g1 p1 fun e u H2 g2 s2 r2 p2 => ⟨O, d, e, g2.dom, r1.ext (Ext.same s2), r2, Post.give (hq d e) (s1.trans s2) p2⟩
theorem re_un {op : UnaryOp} {f : PyData → Rs PyData} (ho : UnD X (unaryOp op) f) (hq : ∀ x, Quiet (f x)) (ha : PE X a (RE X W ca)) : PE X (.UnaryOp op a pos) (RE X W (dOp1 f ca)) :=
  pe_imp (pe_un ho ha) fun σ H Q ⟨Hb, ρ, O, g, p⟩ => RE.go g p fun d v H1 g1 s1 r1 p1 => ⟨O, d, g1.dom, r1, Post.give (hq d) s1 p1⟩
theorem re_cmp {op : CmpOp} {f : PyData → PyData → Rs PyData} (ho : OpB X (compareOp op) f) (hq : ∀ x y, Quiet (f x y)) (ha : PE X a (RB X W ca)) (hb : PE X b (RB X W cb)) (hm : behindInMarks op b = false) : PE X (.Compare a [op] [b] pos) (RE X W (dOp2 f ca cb)) :=
  pe_imp (pe_cmpR ho ha hb hm) fun σ H Q ⟨Hb, ρ, O, g, p⟩ => RB.go g p fun d v H1 g1 s1 r1 p1 => RB.go g1 p1 fun e u H2 g2 s2 r2 p2 => ⟨O, d, e, g2.dom, r1.same s2, r2, Post.give (hq d e) (s1.trans s2) p2⟩
theorem Post.bool {O : Addr → Prop} {σ : St} {H H0 : Hp} {r : Rs PyData} {Q : Bool → Hp → Prop} (hx : Quiet r) (s0 : Same H0 H) (p : Post X W O σ H (r >>= boolD) fun d => ∀ H', Same H0 H' → Q d H') : Give X.kw H O r (fun v H' => ∃ k, v = .bl k ∧ Q k H') := by
  cases r with
  | ok d =>
    cases d with
    | bool b =>
      intro v H' s r
      cases r
      exact ⟨b, rfl, p H' (s0.trans s)⟩
    | _ => exact False.elim p
  | error e =>
    cases e with
    | stuck => exact p
    | exc n q => exact absurd rfl (hx n q)
theorem rt_cmp {op : CmpOp} {f : PyData → PyData → Rs PyData} (ho : OpB X (compareOp op) f) (hq : ∀ x y, Quiet (f x y)) (ha : PE X a (RB X W ca)) (hb : PE X b (RB X W cb)) (hm : behindInMarks op b = false) : PT X (.Compare a [op] [b] pos) (RT X W (tVal (dOp2 f ca cb))) :=
  pt_imp (pt_cmpR ho ha hb hm) fun σ H Q ⟨Hb, ρ, O, g, p⟩ => by
    have p : Post X W O σ H (ca ρ >>= fun x => (cb ρ >>= fun y => f x y >>= boolD)) fun d => ∀ H', Same H H' → Q d H' := by
      have := p
      simp only [tVal, dOp2, bind_assoc] at this
      exact this
    exact RB.go g p fun d v H1 g1 s1 r1 p1 => RB.go g1 p1 fun e u H2 g2 s2 r2 p2 => ⟨O, d, e, g2.dom, r1.same s2, r2, Post.bool (hq d e) (s1.trans s2) p2⟩
theorem rt_val (ha : PE X a (RE X W ca)) (he : ∀ whole, isTrue a X.env whole = (do let v ← whole; standAt a.pos; holding [v] (truthy v)) := by intro _; rfl) : PT X a (RT X W (tVal ca)) :=
  pt_imp (pt_val ha he) fun σ H Q ⟨Hb, ρ, O, g, p⟩ => RE.go' g p fun d v H1 g1 s1 r1 p1 => by
    cases r1 with
    | bl b => exact ⟨b, rfl, p1 H1 s1⟩
    | _ => exact False.elim p1
theorem rw_and1 (h : PT X a (RT X W ta)) : PW X (.BoolOp .And [a] pos) (RT X W ta) := pw_and1 h
theorem rw_or1 (h : PT X a (RT X W ta)) : PW X (.BoolOp .Or [a] pos) (RT X W ta) := pw_or1 h
theorem pw_imp {e : Expr} {t t' : TT} (h : PW X e t) (i : ∀ σ H Q, t' σ H Q → t σ H Q) : PW X e t' := ⟨fun wh pins s σ H Q I q => h.run wh pins s σ H Q I (i σ H Q q)⟩
theorem rw_and {rest : List Expr} (ha : PT X a (RT X W ta)) (hb : PW X (.BoolOp .And (b :: rest) pos) (RT X W tb)) : PW X (.BoolOp .And (a :: b :: rest) pos) (RT X W (tAndD ta tb)) :=
  pw_imp (pw_and ha hb) fun σ H Q ⟨Hb, ρ, O, g, p⟩ => RT.go g p fun d H1 g1 s1 p1 => by
    cases d with
    | true => exact ⟨Hb, ρ, O, g1, p1.imp fun b _ q H' s => q H' (s1.trans s)⟩
    | false => exact p1 H1 s1
theorem rw_or {rest : List Expr} (ha : PT X a (RT X W ta)) (hb : PW X (.BoolOp .Or (b :: rest) pos) (RT X W tb)) : PW X (.BoolOp .Or (a :: b :: rest) pos) (RT X W (tOrD ta tb)) :=
  pw_imp (pw_or ha hb) fun σ H Q ⟨Hb, ρ, O, g, p⟩ => RT.go g p fun d H1 g1 s1 p1 => by
    cases d with
    | false => exact ⟨Hb, ρ, O, g1, p1.imp fun b _ q H' s => q H' (s1.trans s)⟩
    | true => exact p1 H1 s1
theorem rt_w {e : Expr} (h : PW X e (RT X W ta)) : PT X e (RT X W ta) := h.pt
theorem rt_not (ha : PT X a (RT X W ta)) : PT X (.UnaryOp .Not a pos) (RT X W (tNotD ta)) :=
  pt_imp (pt_not ha) fun σ H Q ⟨Hb, ρ, O, g, p⟩ => RT.go g p fun d H1 g1 s1 p1 => p1 H1 s1
theorem re_if (ht : PT X c (RT X W ta)) (ha : PE X a (RE X W ca)) (hb : PE X b (RE X W cb)) : PE X (.IfExp c a b pos) (RE X W (dIf ta ca cb)) :=
  pe_imp (pe_ifExp ht ha hb) fun σ H Q ⟨Hb, ρ, O, g, p⟩ => RT.go g p fun d H1 g1 s1 p1 => by
    cases d with
    | true => exact ⟨Hb, ρ, O, g1, p1.imp fun b _ q v H' s r => q v H' (s1.trans s) r⟩
    | false => exact ⟨Hb, ρ, O, g1, p1.imp fun b _ q v H' s r => q v H' (s1.trans s) r⟩
theorem re_one {op} (h : PE X a (RE X W ca)) : PE X (.BoolOp op [a] pos) (RE X W ca) := pe_one h
theorem re_and {rest : List Expr} (ha : PE X a (RE X W ca)) (hb : PE X (.BoolOp .And (b :: rest) pos) (RE X W cb)) : PE X (.BoolOp .And (a :: b :: rest) pos) (RE X W (dAndV ca cb)) :=
  pe_imp (pe_and ha hb) fun σ H Q ⟨Hb, ρ, O, g, p⟩ => by
    have p : Post X W O σ H (ca ρ >>= fun x => (boolD x >>= fun t => if t = true then cb ρ else .ok (.bool false))) fun d => ∀ v H', Same H H' → Rep X.kw H' O v d → Q v H' := by
      have := p
      simp only [dAndV, bind_assoc] at this
      exact this
    exact RE.go' g p fun d v H1 g1 s1 r1 p1 => by
      cases r1 with
      | bl k =>
        refine ⟨k, rfl, ?_⟩
        cases k with
        | true => exact ⟨Hb, ρ, O, g1, Post.imp (show Post X W O σ H1 (cb ρ) _ from p1) fun b _ q v H' s r => q v H' (s1.trans s) r⟩
        | false => exact p1 _ H1 s1 (.bl _)
      | _ => exact False.elim p1
theorem re_or {rest : List Expr} (ha : PE X a (RE X W ca)) (hb : PE X (.BoolOp .Or (b :: rest) pos) (RE X W cb)) : PE X (.BoolOp .Or (a :: b :: rest) pos) (RE X W (dOrV ca cb)) :=
  pe_imp (pe_or ha hb) fun σ H Q ⟨Hb, ρ, O, g, p⟩ => by
    have p : Post X W O σ H (ca ρ >>= fun x => (boolD x >>= fun t => if t = true then .ok (.bool true) else cb ρ)) fun d => ∀ v H', Same H H' → Rep X.kw H' O v d → Q v H' := by
      have := p
      simp only [dOrV, bind_assoc] at this
      exact this
    exact RE.go' g p fun d v H1 g1 s1 r1 p1 => by
      cases r1 with
      | bl k =>
        refine ⟨k, rfl, ?_⟩
        cases k with
        | false => exact ⟨Hb, ρ, O, g1, Post.imp (show Post X W O σ H1 (cb ρ) _ from p1) fun b _ q v H' s r => q v H' (s1.trans s) r⟩
        | true => exact p1 _ H1 s1 (.bl _)
      | _ => exact False.elim p1
theorem re_not (ha : PE X a (RE X W ca)) : PE X (.UnaryOp .Not a pos) (RE X W (dNotV ca)) :=
  pe_imp (L2.pe_not ha) fun σ H Q ⟨Hb, ρ, O, g, p⟩ => by
    have p : Post X W O σ H (ca ρ >>= fun x => (boolD x >>= fun t => .ok (.bool (!t)))) fun d => ∀ v H', Same H H' → Rep X.kw H' O v d → Q v H' := by
      have := p
      simp only [dNotV, bind_assoc] at this
      exact this
    exact RE.go' g p fun d v H1 g1 s1 r1 p1 => by
      cases r1 with
      | bl k => exact ⟨k, rfl, p1 _ H1 s1 (.bl _)⟩
      | _ => exact False.elim p1
theorem chain_go {f f' : PyData → PyData → Rs PyData} (hq : ∀ x y, Quiet (f x y)) (hq' : ∀ x y, Quiet (f' x y)) {σ H Q} (h : RE X W (dChain f f' ca cb cc) σ H Q) :
    tChain (fun x y H Q => ∃ O d e, OkO O H ∧ RepB X.kw H O x d ∧ RepB X.kw H O y e ∧ Give X.kw H O (f d e) Q) (fun x y H Q => ∃ O d e, OkO O H ∧ RepB X.kw H O x d ∧ RepB X.kw H O y e ∧ Give X.kw H O (f' d e) Q) (RB X W ca) (RB X W cb) (RB X W cc) σ H Q := by
  obtain ⟨Hb, ρ, O, g, p⟩ := h
  have p : Post X W O σ H (ca ρ >>= fun x => (cb ρ >>= fun y => (f x y >>= boolD >>= fun t => if t = true then cc ρ >>= fun z => f' y z else .ok (.bool false)))) fun d => ∀ v H', Same H H' → Rep X.kw H' O v d → Q v H' := p
  refine RB.go g p fun d v H1 g1 s1 r1 p1 => RB.go g1 p1 fun e u H2 g2 s2 r2 p2 => ⟨O, d, e, g2.dom, r1.same s2, r2, ?_⟩
  cases hfe : f d e with
  | error er =>
    rw [hfe] at p2
    cases er with
    | stuck => exact p2
    | exc n q => exact absurd hfe (hq d e n q)
  | ok z =>
    rw [hfe] at p2
    intro w H3 s3 r3
    cases r3 with
    | bl k =>
      refine ⟨k, rfl, ?_⟩
      have g3 := g2.to s3
      cases k with
      | true =>
        have p3 : Post X W O σ H3 (cc ρ >>= fun z => f' e z) fun d => ∀ v H', Same H H' → Rep X.kw H' O v d → Q v H' := Post.to s3 (show Post X W O σ H2 (cc ρ >>= fun z => f' e z) _ from p2) fun _ z => z
        exact RB.go g3 p3 fun z w H4 g4 s4 r4 p4 => ⟨O, e, z, g4.dom, r2.same (s3.trans s4), r4, Post.give (hq' e z) (s1.trans (s2.trans (s3.trans s4))) p4⟩
      | false => exact p2 _ H3 (s1.trans (s2.trans s3)) (.bl _)
    | _ => exact False.elim p2
theorem re_chain {op op' : CmpOp} {f f' : PyData → PyData → Rs PyData} (ho : OpB X (compareOp op) f) (ho' : OpB X (compareOp op') f') (hq : ∀ x y, Quiet (f x y)) (hq' : ∀ x y, Quiet (f' x y))
    (ha : PE X a (RB X W ca)) (hb : PE X b (RB X W cb)) (hc : PE X c (RB X W cc)) (hm : lastMarks [op, op'] [b, c] = false := by with_unfolding_all rfl) : PE X (.Compare a [op, op'] [b, c] pos) (RE X W (dChain f f' ca cb cc)) :=
  pe_imp (pe_chain ho ho' ha hb hc hm) fun σ H Q h => chain_go hq hq' h
theorem rt_chain {op op' : CmpOp} {f f' : PyData → PyData → Rs PyData} (ho : OpB X (compareOp op) f) (ho' : OpB X (compareOp op') f') (hq : ∀ x y, Quiet (f x y)) (hq' : ∀ x y, Quiet (f' x y))
    (ha : PE X a (RB X W ca)) (hb : PE X b (RB X W cb)) (hc : PE X c (RB X W cc)) (hm : lastMarks [op, op'] [b, c] = false := by with_unfolding_all rfl) : PT X (.Compare a [op, op'] [b, c] pos) (RT X W (tVal (dChain f f' ca cb cc))) :=
  pt_imp (pt_chain ho ho' ha hb hc hm) fun σ H Q ⟨Hb, ρ, O, g, p⟩ => chain_go (Q := fun v H' => ∃ k, v = .bl k ∧ Q k H') hq hq' ⟨Hb, ρ, O, g, by
    have p : Post X W O σ H (dChain f f' ca cb cc ρ >>= boolD) fun d => ∀ H', Same H H' → Q d H' := p
    refine p.bind.imp fun d _ q v H' s r => ?_
    cases r with
    | bl b => exact ⟨b, rfl, q H' s⟩
    | _ => exact False.elim q⟩

/-! names and constants -/
theorem re_int {i j} : PE X (.Constant (.int i) j pos) (RE X W (dLit (.int i))) := pe_imp pe_int fun σ H Q ⟨Hb, ρ, O, g, p⟩ => p _ H (Same.refl H) (.int i)
theorem re_bl {i j} : PE X (.Constant (.bool i) j pos) (RE X W (dLit (.bool i))) := pe_imp pe_bl fun σ H Q ⟨Hb, ρ, O, g, p⟩ => p _ H (Same.refl H) (.bl i)
theorem re_non {j} : PE X (.Constant .none j pos) (RE X W (dLit .none)) := pe_imp pe_non fun σ H Q ⟨Hb, ρ, O, g, p⟩ => p _ H (Same.refl H) .non
theorem re_str {x j} : PE X (.Constant (.str x) j pos) (RE X W (dLit (.str x))) := pe_imp pe_str fun σ H Q ⟨Hb, ρ, O, g, p⟩ => p _ H (Same.refl H) (.str x)
theorem re_var (i : Nat) {x : Str} (hN : X.N[i]? = some x := by rfl) (hv : Vis X.env.scope x := by first | exact Or.inl rfl | exact Or.inr (Or.inl rfl) | exact Or.inr (Or.inr rfl)) (hd : (x == ("__debug__" : Str)) = false := by decide)
    (hcd : (x == ("__classdict__" : Str)) = false := by decide) : PE X (.Name x pos) (RE X W (dVar i)) :=
  pe_imp (pe_var hN hv hd hcd) fun σ H Q ⟨Hb, ρ, O, g, p⟩ => by
    unfold dVar at p
    split at p
    · rename_i d e
      obtain ⟨v, ev, r⟩ := g.dat i d e
      exact ⟨v, ev, p v H (Same.refl H) r⟩
    · exact p.elim
theorem rb_var (i : Nat) {x : Str} (hN : X.N[i]? = some x := by rfl) (hv : Vis X.env.scope x := by first | exact Or.inl rfl | exact Or.inr (Or.inl rfl) | exact Or.inr (Or.inr rfl)) (hd : (x == ("__debug__" : Str)) = false := by decide)
    (hcd : (x == ("__classdict__" : Str)) = false := by decide) : PE X (.Name x pos) (RB X W (dVarB i)) :=
  pe_imp (pe_var hN hv hd hcd) fun σ H Q ⟨Hb, ρ, O, g, p⟩ => by
    unfold dVarB at p
    split at p
    · rename_i d e
      obtain ⟨v, ev, r⟩ := g.dat i d e
      exact ⟨v, ev, p v H (Same.refl H) r.b⟩
    · rename_i d e
      obtain ⟨a, vs, ev, h, r⟩ := g.bor i d (.inl e)
      exact ⟨_, ev, p _ H (Same.refl H) (.inr (.inl ⟨a, vs, d, rfl, rfl, g.same.seq h, r⟩))⟩
    · rename_i d e
      obtain ⟨a, vs, ev, h, r⟩ := g.bor i d (.inr e)
      exact ⟨_, ev, p _ H (Same.refl H) (.inr (.inl ⟨a, vs, d, rfl, rfl, g.same.seq h, r⟩))⟩
    · rename_i d e
      obtain ⟨z, a, o, ev, _, h⟩ := g.bod i d (.inl e)
      exact ⟨_, ev, p _ H (Same.refl H) (.inr (.inr ⟨z, a, d, rfl, rfl, h⟩))⟩
    · rename_i d e
      obtain ⟨z, a, o, ev, _, h⟩ := g.bod i d (.inr e)
      exact ⟨_, ev, p _ H (Same.refl H) (.inr (.inr ⟨z, a, d, rfl, rfl, h⟩))⟩
    · exact p.elim
/-- a module's constant -/
def KRep (K : Kw) (v : V) (d : PyData) : Prop := ∀ H O, Rep K H O v d
theorem re_glob {x : Str} {v : V} {u : Value} {d : PyData} (hg : Gl X x) (hm : X.mg x = some u) (r : RelV v u) (k : KRep X.kw v d) (hd : (x == ("__debug__" : Str)) = false := by decide) : PE X (.Name x pos) (RE X W (dLit d)) :=
  pe_imp (pe_glob hg hm r hd) fun σ H Q ⟨Hb, ρ, O, g, p⟩ => p v H (Same.refl H) (k H O)
theorem krep_int {K : Kw} (i : Int) : KRep K (.int i) (.int i) := fun _ _ => .int i
theorem krep_str {K : Kw} (i : Str) : KRep K (.str i) (.str i) := fun _ _ => .str i
/-! arguments -/
theorem ra_nil : PA X [] (RA X W dNil) := pa_imp pa_nil fun σ H Q ⟨Hb, ρ, O, g, p⟩ => p [] H (Same.refl H) .nil
theorem ra_cons (ha : PE X e (RE X W ca)) (hr : PA X es (RA X W cs)) (hs : starEach (e :: es) X.env = (false, eval e X.env) :: starEach es X.env := by rfl) : PA X (e :: es) (RA X W (dCons ca cs)) :=
  pa_imp (pa_cons ha hr hs) fun σ H Q ⟨Hb, ρ, O, g, p⟩ => RE.go' g p fun d v H1 g1 s1 r1 p1 => RA.go g1 p1 fun ds vs H2 g2 s2 r2 p2 => p2 _ H2 (s1.trans s2) (.cons (r1.ext (Ext.same s2)) r2)
theorem rab_nil : PA X [] (RAB X W dNil) := pa_imp pa_nil fun σ H Q ⟨Hb, ρ, O, g, p⟩ => p [] H (Same.refl H) .nil
theorem pr_same {K : Kw} {H H' : Hp} {O : Addr → Prop} {vs ds} (s : Same H H') (h : Paired (RepB K H O) vs ds) : Paired (RepB K H' O) vs ds := Paired.mono (fun _ _ r => r.same s) h
theorem rab_cons (ha : PE X e (RB X W ca)) (hr : PA X es (RAB X W cs)) (hs : starEach (e :: es) X.env = (false, eval e X.env) :: starEach es X.env := by rfl) : PA X (e :: es) (RAB X W (dCons ca cs)) :=
  pa_imp (pa_cons ha hr hs) fun σ H Q ⟨Hb, ρ, O, g, p⟩ => RB.go g p fun d v H1 g1 s1 r1 p1 => RAB.go g1 p1 fun ds vs H2 g2 s2 r2 p2 => p2 _ H2 (s1.trans s2) (.cons (r1.same s2) r2)
/-! displays -/
theorem re_tup {x1} (h : PA X es (RA X W cs)) : PE X (.Tuple es x1 pos) (RE X W (dTup cs)) :=
  pe_imp (pe_tup h) fun σ H Q ⟨Hb, ρ, O, g, p⟩ => RA.go g p fun ds vs H1 g1 s1 r1 p1 => by
    split at p1
    · rename_i hl
      refine ⟨by rw [r1.length]; exact of_decide_eq_true hl, fun a ha => ?_⟩
      refine p1 _ _ (s1.trans (same_upd ha)) (.tup (.inl ⟨.inl upd_same, no_own g1.dom ha⟩) (RepAll.iff.mpr (r1.ext (Ext.same (same_upd ha)))))
    · exact p1.elim
theorem rl_lst (h : PA X es (RA X W cs)) : PE X (.List es pos) (RL X W (dList cs)) :=
  pe_imp (pe_lst h) fun σ H Q ⟨Hb, ρ, O, g, p⟩ => RA.go g p fun ds vs H1 g1 s1 r1 p1 => by
    split at p1
    · rename_i hl
      refine ⟨by rw [r1.length]; exact of_decide_eq_true hl, fun a ha => ?_⟩
      exact p1 a vs _ (s1.trans (same_upd ha)) (s1.free ha) upd_same (r1.ext (ext_new ha))
    · exact p1.elim
/-! calls of built-ins by name -/
theorem Post.giveL {O : Addr → Prop} {σ : St} {H H0 : Hp} {r : Rs (List PyData)} {Q : VK} (hx : Quiet r) (s0 : Same H0 H) (p : Post X W O σ H r fun ds => ∀ a vs H', Same H0 H' → H0 a = none → H' a = some (.lst vs) → Reps X.kw H' (fun b => O b ∨ b = a) vs ds → Q (.ref a) H') : GiveL X.kw H O r Q := by
  cases r with
  | ok d => exact fun a vs H' s n h r => p a vs H' (s0.trans s) (s0.free n) h r
  | error e =>
    cases e with
    | stuck => exact p
    | exc n q => exact absurd rfl (hx n q)
theorem re_callB {x id : _} {p : Pos} {f : List PyData → Rs PyData} (hc : CallB X (.builtin id) f) (hq : ∀ xs, Quiet (f xs)) (hg : Gl X x) (hm : X.mg x = none) (hv : bootBuiltins x = some (.builtin id)) (ha : PA X (e :: es) (RAB X W cs)) (hn : x ≠ "__name__" := by decide) (hdb : (x == ("__debug__" : Str)) = false := by decide)
    (he : starEach (e :: es) X.env = (false, eval e X.env) :: starEach es X.env := by rfl) (hpl : (backTo pos (starEach es X.env)).any (·.1) = false := by rfl) : PE X (.Call (.Name x p) (e :: es) [] pos) (RE X W (dCall f cs)) :=
  pe_imp (pe_callB hc hg hm hv ha hn hdb he hpl) fun σ H Q ⟨Hb, ρ, O, g, p⟩ => RAB.go g p fun ds vs H1 g1 s1 r1 p1 => ⟨O, ds, g1.dom, r1, Post.give (hq ds) s1 p1⟩
theorem re_callTy {x T : _} {p : Pos} {f : List PyData → Rs PyData} (hc : CallB X (.type T) f) (hq : ∀ xs, Quiet (f xs)) (hg : Gl X x) (hm : X.mg x = none) (hv : bootBuiltins x = some (.type T)) (ha : PA X (e :: es) (RAB X W cs)) (hn : x ≠ "__name__" := by decide) (hdb : (x == ("__debug__" : Str)) = false := by decide)
    (he : starEach (e :: es) X.env = (false, eval e X.env) :: starEach es X.env := by rfl) (hpl : (backTo pos (starEach es X.env)).any (·.1) = false := by rfl) : PE X (.Call (.Name x p) (e :: es) [] pos) (RE X W (dCall f cs)) :=
  pe_imp (pe_callTy hc hg hm hv ha hn hdb he hpl) fun σ H Q ⟨Hb, ρ, O, g, p⟩ => RAB.go g p fun ds vs H1 g1 s1 r1 p1 => ⟨O, ds, g1.dom, r1, Post.give (hq ds) s1 p1⟩
theorem rl_callB {x id : _} {p : Pos} {f : List PyData → Rs (List PyData)} (hc : CallL X (.builtin id) f) (hq : ∀ xs, Quiet (f xs)) (hg : Gl X x) (hm : X.mg x = none) (hv : bootBuiltins x = some (.builtin id)) (ha : PA X (e :: es) (RAB X W cs)) (hn : x ≠ "__name__" := by decide) (hdb : (x == ("__debug__" : Str)) = false := by decide)
    (he : starEach (e :: es) X.env = (false, eval e X.env) :: starEach es X.env := by rfl) (hpl : (backTo pos (starEach es X.env)).any (·.1) = false := by rfl) : PE X (.Call (.Name x p) (e :: es) [] pos) (RL X W (dCallL f cs)) :=
  pe_imp (pe_callB hc hg hm hv ha hn hdb he hpl) fun σ H Q ⟨Hb, ρ, O, g, p⟩ => RAB.go g p fun ds vs H1 g1 s1 r1 p1 => ⟨O, ds, g1.dom, r1, Post.giveL (hq ds) s1 p1⟩
theorem rl_callTy {x T : _} {p : Pos} {f : List PyData → Rs (List PyData)} (hc : CallL X (.type T) f) (hq : ∀ xs, Quiet (f xs)) (hg : Gl X x) (hm : X.mg x = none) (hv : bootBuiltins x = some (.type T)) (ha : PA X (e :: es) (RAB X W cs)) (hn : x ≠ "__name__" := by decide) (hdb : (x == ("__debug__" : Str)) = false := by decide)
    (he : starEach (e :: es) X.env = (false, eval e X.env) :: starEach es X.env := by rfl) (hpl : (backTo pos (starEach es X.env)).any (·.1) = false := by rfl) : PE X (.Call (.Name x p) (e :: es) [] pos) (RL X W (dCallL f cs)) :=
  pe_imp (pe_callTy hc hg hm hv ha hn hdb he hpl) fun σ H Q ⟨Hb, ρ, O, g, p⟩ => RAB.go g p fun ds vs H1 g1 s1 r1 p1 => ⟨O, ds, g1.dom, r1, Post.giveL (hq ds) s1 p1⟩
end
end Den

set_option Elab.async false
set_option linter.all false
set_option maxRecDepth 100000
set_option maxHeartbeats 4000000
namespace Den
open PySem PySem.Spec PyProof.Rows L2

/-! ### targets -/
inductive Tg where
  | nm (i : Nat)
  | tp (ts : List Tg)
mutual
def Tg.g (K : Kw) : Tg → TG
  | .nm i => gName i
  | .tp ts => gTup K.1 ts.length (Tg.gs K ts)
def Tg.gs (K : Kw) : List Tg → TGs
  | [] => gNil
  | t :: ts => gCons (t.g K) (Tg.gs K ts)
end
mutual
def Tg.d : Tg → EnvD → PyData → Rs EnvD
  | .nm i, ρ, d => .ok (ρ.set i (.dat d))
  | .tp ts, ρ, .tuple ds => Tg.dsx ts ρ ds
  | .tp _, _, _ => stuck
def Tg.dsx : List Tg → EnvD → List PyData → Rs EnvD
  | [], ρ, [] => .ok ρ
  | t :: ts, ρ, d :: ds => t.d ρ d >>= fun ρ' => Tg.dsx ts ρ' ds
  | _, _, _ => stuck
end
mutual
def Tg.within (vs : List Nat) : Tg → Bool
  | .nm i => vs.contains i
  | .tp ts => Tg.withins vs ts
def Tg.withins (vs : List Nat) : List Tg → Bool
  | [] => true
  | t :: ts => t.within vs && Tg.withins vs ts
end
section
variable {K : Kw} {G : Gd} {O O' : Addr → Prop} {ρ ρ' : EnvD} {σ : St} {H H' : Hp}
theorem set_some {α : Type} {l : List α} {i j : Nat} {a b : α} (h : (l.set i a)[j]? = some b) : (i = j ∧ b = a ∧ j < l.length) ∨ (i ≠ j ∧ l[j]? = some b) := by
  by_cases e : i = j
  · subst e
    by_cases hl : i < l.length
    · rw [List.getElem?_set_self hl] at h
      exact .inl ⟨rfl, (Option.some.inj h).symm, hl⟩
    · rw [List.getElem?_eq_none (by simpa using hl)] at h
      cases h
  · rw [List.getElem?_set_ne e] at h
    exact .inr ⟨e, h⟩
theorem set_at {α : Type} {l : List α} {i : Nat} {a : α} (hl : i < l.length) : (l.set i a)[i]? = some a := List.getElem?_set_self hl
theorem set_off {α : Type} {l : List α} {i j : Nat} {a : α} (h : i ≠ j) : (l.set i a)[j]? = l[j]? := List.getElem?_set_ne h
/-- a slot gets a value -/
theorem Good.set (g : Good K G O ρ σ H) (i : Nat) {v : V} {d : PyData} (r : Rep K H O v d) : Good K G O (ρ.set i (.dat d)) (σ.set i (some v)) H where
  len := by rw [List.length_set, List.length_set]; exact g.len
  same := g.same
  sub := g.sub
  dom := g.dom
  dat := fun j e h => by
    rcases set_some h with ⟨rfl, z, hl⟩ | ⟨n, h⟩
    · cases z
      exact ⟨v, set_at (by rw [← g.len]; exact hl), r⟩
    · obtain ⟨w, e1, r1⟩ := g.dat j e h
      exact ⟨w, by rw [set_off n]; exact e1, r1⟩
  ol := fun j e h => by
    rcases set_some h with ⟨rfl, z, hl⟩ | ⟨n, h⟩
    · cases z
    · obtain ⟨a, vs, e1, r1⟩ := g.ol j e h
      exact ⟨a, vs, by rw [set_off n]; exact e1, r1⟩
  fz := fun j e h => by
    rcases set_some h with ⟨rfl, z, hl⟩ | ⟨n, h⟩
    · cases z
    · obtain ⟨a, vs, e1, r1⟩ := g.fz j e h
      exact ⟨a, vs, by rw [set_off n]; exact e1, r1⟩
  od := fun j e h => by
    rcases set_some h with ⟨rfl, z, hl⟩ | ⟨n, h⟩
    · cases z
    · obtain ⟨a, e1, r1⟩ := g.od j e h
      exact ⟨a, by rw [set_off n]; exact e1, r1⟩
  fd := fun j e h => by
    rcases set_some h with ⟨rfl, z, hl⟩ | ⟨n, h⟩
    · cases z
    · obtain ⟨z, a, o, e1, r1⟩ := g.fd j e h
      exact ⟨z, a, o, by rw [set_off n]; exact e1, r1⟩
  inj := fun j k a x y h1 h2 w1 w2 s1 s2 => by
    rcases set_some h1 with ⟨_, z, _⟩ | ⟨n1, h1⟩
    · subst z; cases w1
    · rcases set_some h2 with ⟨_, z, _⟩ | ⟨n2, h2⟩
      · subst z; cases w2
      · rw [set_off n1] at s1
        rw [set_off n2] at s2
        exact g.inj j k a x y h1 h2 w1 w2 s1 s2
/-- a slot is forgotten -/
theorem Good.unset (g : Good K G O ρ σ H) (i : Nat) (v : Option V) : Good K G O (ρ.set i .un) (σ.set i v) H where
  len := by rw [List.length_set, List.length_set]; exact g.len
  same := g.same
  sub := g.sub
  dom := g.dom
  dat := fun j e h => by
    rcases set_some h with ⟨rfl, z, hl⟩ | ⟨n, h⟩
    · cases z
    · obtain ⟨w, e1, r1⟩ := g.dat j e h
      exact ⟨w, by rw [set_off n]; exact e1, r1⟩
  ol := fun j e h => by
    rcases set_some h with ⟨rfl, z, hl⟩ | ⟨n, h⟩
    · cases z
    · obtain ⟨a, vs, e1, r1⟩ := g.ol j e h
      exact ⟨a, vs, by rw [set_off n]; exact e1, r1⟩
  fz := fun j e h => by
    rcases set_some h with ⟨rfl, z, hl⟩ | ⟨n, h⟩
    · cases z
    · obtain ⟨a, vs, e1, r1⟩ := g.fz j e h
      exact ⟨a, vs, by rw [set_off n]; exact e1, r1⟩
  od := fun j e h => by
    rcases set_some h with ⟨rfl, z, hl⟩ | ⟨n, h⟩
    · cases z
    · obtain ⟨a, e1, r1⟩ := g.od j e h
      exact ⟨a, by rw [set_off n]; exact e1, r1⟩
  fd := fun j e h => by
    rcases set_some h with ⟨rfl, z, hl⟩ | ⟨n, h⟩
    · cases z
    · obtain ⟨z, a, o, e1, r1⟩ := g.fd j e h
      exact ⟨z, a, o, by rw [set_off n]; exact e1, r1⟩
  inj := fun j k a x y h1 h2 w1 w2 s1 s2 => by
    rcases set_some h1 with ⟨_, z, _⟩ | ⟨n1, h1⟩
    · subst z; cases w1
    · rcases set_some h2 with ⟨_, z, _⟩ | ⟨n2, h2⟩
      · subst z; cases w2
      · rw [set_off n1] at s1
        rw [set_off n2] at s2
        exact g.inj j k a x y h1 h2 w1 w2 s1 s2
def wipeD (ρ : EnvD) : List Nat → EnvD
  | [] => ρ
  | v :: vs => (wipeD ρ vs).set v .un
theorem Good.wipe (g : Good K G O ρ σ H) : ∀ vs, Good K G O (wipeD ρ vs) (wipe σ vs) H
  | [] => g
  | v :: vs => (g.wipe vs).unset v none
/-- all that stood stands, the objects of O' are of O or new -/
theorem Good.wider (g : Good K G O ρ σ H) (s : Same H H') (o1 : ∀ a, O a → O' a) (o2 : ∀ a, O' a → O a ∨ H a = none) (ok : OkO O' H') : Good K G O' ρ σ H' :=
  have e : Ext H O H' O' := ⟨fun a o h _ => s a o h, o2, fun a o h => ⟨o, s a o h⟩⟩
  { len := g.len
    same := g.same.trans s
    sub := fun a h => o1 a (g.sub a h)
    dom := ok
    dat := fun i d h => by
      obtain ⟨v, e1, r⟩ := g.dat i d h
      exact ⟨v, e1, r.ext e⟩
    ol := fun i d h => by
      obtain ⟨a, vs, e1, h1, r, o, f⟩ := g.ol i d h
      exact ⟨a, vs, e1, s _ _ h1, r.ext e, o1 a o, f⟩
    fz := fun i d h => by
      obtain ⟨a, vs, e1, h1, r⟩ := g.fz i d h
      exact ⟨a, vs, e1, h1, r.ext e⟩
    od := fun i d h => by
      obtain ⟨a, e1, h1, o, f⟩ := g.od i d h
      exact ⟨a, e1, h1.ext e fun u z => s a u z, o1 a o, f⟩
    fd := fun i d h => by
      obtain ⟨z, a, o, e1, h0, h1⟩ := g.fd i d h
      exact ⟨z, a, o, e1, h0, h1.ext e fun u z => s a u z⟩
    inj := g.inj }
theorem wipe_set (σ : St) (i : Nat) (v : Option V) : ∀ vs : List Nat, i ∈ vs → wipe (σ.set i v) vs = wipe σ vs
  | w :: vs, h => by
    show (wipe (σ.set i v) vs).set w none = (wipe σ vs).set w none
    by_cases e : i ∈ vs
    · rw [wipe_set σ i v vs e]
    · have e1 : i = w := (List.mem_cons.mp h).resolve_right e
      subst e1
      have : ∀ (τ : St) (us : List Nat), i ∉ us → wipe (τ.set i v) us = (wipe τ us).set i v := by
        intro τ us
        induction us with
        | nil => intro _; rfl
        | cons u us ih =>
          intro hu
          rw [List.mem_cons, not_or] at hu
          show (wipe (τ.set i v) us).set u none = ((wipe τ us).set u none).set i v
          rw [ih hu.2, List.set_comm _ _ hu.1]
      rw [this σ vs e, List.set_set]
theorem GoodE.set {Hb : Hp} (g : GoodE K Hb O ρ σ H) (i : Nat) {v : V} {d : PyData} (r : Rep K H O v d) : GoodE K Hb O (ρ.set i (.dat d)) (σ.set i (some v)) H where
  len := by rw [List.length_set, List.length_set]; exact g.len
  same := g.same
  dom := g.dom
  dat := fun j e h => by
    rcases set_some h with ⟨rfl, z, hl⟩ | ⟨n, h⟩
    · cases z
      exact ⟨v, set_at (by rw [← g.len]; exact hl), r⟩
    · obtain ⟨w, e1, r1⟩ := g.dat j e h
      exact ⟨w, by rw [set_off n]; exact e1, r1⟩
  bor := fun j e h => by
    have h' : i ≠ j ∧ (ρ[j]? = some (.ol e) ∨ ρ[j]? = some (.fz e)) := by
      rcases h with h | h
      · rcases set_some h with ⟨rfl, z, hl⟩ | ⟨n, h⟩
        · cases z
        · exact ⟨n, .inl h⟩
      · rcases set_some h with ⟨rfl, z, hl⟩ | ⟨n, h⟩
        · cases z
        · exact ⟨n, .inr h⟩
    obtain ⟨a, vs, e1, r1⟩ := g.bor j e h'.2
    exact ⟨a, vs, by rw [set_off h'.1]; exact e1, r1⟩
  bod := fun j e h => by
    have h' : i ≠ j ∧ (ρ[j]? = some (.od e) ∨ ρ[j]? = some (.fd e)) := by
      rcases h with h | h
      · rcases set_some h with ⟨rfl, z, hl⟩ | ⟨n, h⟩
        · cases z
        · exact ⟨n, .inl h⟩
      · rcases set_some h with ⟨rfl, z, hl⟩ | ⟨n, h⟩
        · cases z
        · exact ⟨n, .inr h⟩
    obtain ⟨z, a, o, e1, r1⟩ := g.bod j e h'.2
    exact ⟨z, a, o, by rw [set_off h'.1]; exact e1, r1⟩
theorem GoodE.unset {Hb : Hp} (g : GoodE K Hb O ρ σ H) (i : Nat) (v : Option V) : GoodE K Hb O (ρ.set i .un) (σ.set i v) H where
  len := by rw [List.length_set, List.length_set]; exact g.len
  same := g.same
  dom := g.dom
  dat := fun j e h => by
    rcases set_some h with ⟨rfl, z, hl⟩ | ⟨n, h⟩
    · cases z
    · obtain ⟨w, e1, r1⟩ := g.dat j e h
      exact ⟨w, by rw [set_off n]; exact e1, r1⟩
  bor := fun j e h => by
    have h' : i ≠ j ∧ (ρ[j]? = some (.ol e) ∨ ρ[j]? = some (.fz e)) := by
      rcases h with h | h
      · rcases set_some h with ⟨rfl, z, hl⟩ | ⟨n, h⟩
        · cases z
        · exact ⟨n, .inl h⟩
      · rcases set_some h with ⟨rfl, z, hl⟩ | ⟨n, h⟩
        · cases z
        · exact ⟨n, .inr h⟩
    obtain ⟨a, vs, e1, r1⟩ := g.bor j e h'.2
    exact ⟨a, vs, by rw [set_off h'.1]; exact e1, r1⟩
  bod := fun j e h => by
    have h' : i ≠ j ∧ (ρ[j]? = some (.od e) ∨ ρ[j]? = some (.fd e)) := by
      rcases h with h | h
      · rcases set_some h with ⟨rfl, z, hl⟩ | ⟨n, h⟩
        · cases z
        · exact ⟨n, .inl h⟩
      · rcases set_some h with ⟨rfl, z, hl⟩ | ⟨n, h⟩
        · cases z
        · exact ⟨n, .inr h⟩
    obtain ⟨z, a, o, e1, r1⟩ := g.bod j e h'.2
    exact ⟨z, a, o, by rw [set_off h'.1]; exact e1, r1⟩
theorem GoodE.wipe {Hb : Hp} (g : GoodE K Hb O ρ σ H) : ∀ vs, GoodE K Hb O (wipeD ρ vs) (wipe σ vs) H
  | [] => g
  | v :: vs => (g.wipe vs).unset v none
/-- what stood at the expression's beginning stands, the objects of O' are of O or new -/
theorem GoodE.wider {Hb : Hp} (g : GoodE K Hb O ρ σ H) (s : Same Hb H') (e : Ext H O H' O') (ok : OkO O' H') : GoodE K Hb O' ρ σ H' where
  len := g.len
  same := s
  dom := ok
  dat := fun i d h => by
    obtain ⟨v, e1, r⟩ := g.dat i d h
    exact ⟨v, e1, r.ext e⟩
  bor := fun i d h => by
    obtain ⟨a, vs, e1, h1, r⟩ := g.bor i d h
    exact ⟨a, vs, e1, h1, r.ext e⟩
  bod := fun i d h => by
    obtain ⟨z, a, o, e1, h0, h1⟩ := g.bod i d h
    exact ⟨z, a, o, e1, h0, h1.ext e fun u z => by
      rw [g.same a o h0] at z; cases z
      exact s a _ h0⟩
/-- a word on slots that stands when a slot gets a value -/
def SetOk (K : Kw) (O : Addr → Prop) (H : Hp) (C : EnvD → St → Prop) : Prop := ∀ ρ σ i v d, C ρ σ → Rep K H O v d → C (ρ.set i (.dat d)) (σ.set i (some v))
theorem Good.setOk : SetOk K O H (fun ρ σ => Good K G O ρ σ H) := fun _ _ i _ _ g r => g.set i r
theorem GoodE.setOk {Hb : Hp} : SetOk K O H (fun ρ σ => GoodE K Hb O ρ σ H) := fun _ _ i _ _ g r => g.set i r
section
variable {C : EnvD → St → Prop}
mutual
theorem Tg.go (ok : SetOk K O H C) : ∀ (t : Tg) {ρ ρ' : EnvD} {σ : St} {v : V} {d : PyData} {Q : St → Hp → Prop}, C ρ σ → Rep K H O v d → t.d ρ d = .ok ρ' →
    (∀ σ', C ρ' σ' → (∀ vs, t.within vs = true → L2.wipe σ' vs = L2.wipe σ vs) → Q σ' H) → t.g K v σ H Q
  | .nm i, ρ, ρ', σ, v, d, Q, g, r, e, q => by
    rw [Tg.d] at e
    cases e
    rw [Tg.g]
    exact q _ (ok _ _ i _ _ g r) fun vs h => wipe_set σ i _ vs (by rw [Tg.within] at h; simpa using h)
  | .tp ts, ρ, ρ', σ, v, d, Q, g, r, e, q => by
    cases r with
    | tup h r =>
      rw [Tg.d] at e
      rw [Tg.g]
      have r := RepAll.iff.mp r
      have hl : ∀ (ts : List Tg) (ρ : EnvD) (ds : List PyData), Tg.dsx ts ρ ds = .ok ρ' → ts.length = ds.length := by
        intro ts
        induction ts with
        | nil =>
          intro ρ ds e
          cases ds with
          | nil => rfl
          | cons _ _ => simp [Tg.dsx, stuck] at e
        | cons t ts ih =>
          intro ρ ds e
          cases ds with
          | nil => simp [Tg.dsx, stuck] at e
          | cons d ds =>
            rw [Tg.dsx] at e
            cases h : t.d ρ d with
            | error x => rw [h] at e; cases e
            | ok ρ1 =>
              rw [h] at e
              rw [List.length_cons, List.length_cons, ih ρ1 ds e]
      refine ⟨_, _, rfl, h.sqt, ?_, Tg.goes ok ts g r e fun σ' g' w => q σ' g' fun vs hw => w vs (by rw [Tg.within] at hw; exact hw)⟩
      rw [r.length, hl ts ρ _ e]
    | _ => simp [Tg.d, stuck] at e
theorem Tg.goes (ok : SetOk K O H C) : ∀ (ts : List Tg) {ρ ρ' : EnvD} {σ : St} {vs : List V} {ds : List PyData} {Q : St → Hp → Prop}, C ρ σ → Reps K H O vs ds → Tg.dsx ts ρ ds = .ok ρ' →
    (∀ σ', C ρ' σ' → (∀ vs, Tg.withins vs ts = true → L2.wipe σ' vs = L2.wipe σ vs) → Q σ' H) → Tg.gs K ts vs σ H Q
  | [], ρ, ρ', σ, vs, ds, Q, g, r, e, q => by
    cases r with
    | nil =>
      rw [Tg.dsx] at e
      cases e
      rw [Tg.gs]
      exact ⟨rfl, q σ g fun _ _ => rfl⟩
    | cons _ _ => simp [Tg.dsx, stuck] at e
  | t :: ts, ρ, ρ', σ, vs, ds, Q, g, r, e, q => by
    cases r with
    | nil => simp [Tg.dsx, stuck] at e
    | @cons x d xs ds rx rs =>
      rw [Tg.dsx] at e
      rw [Tg.gs]
      cases h : t.d ρ d with
      | error z => rw [h] at e; cases e
      | ok ρ1 =>
        rw [h] at e
        refine ⟨x, xs, rfl, Tg.go ok t g rx h fun σ1 g1 w1 => Tg.goes ok ts g1 rs e fun σ2 g2 w2 => q σ2 g2 fun us hu => ?_⟩
        rw [Tg.withins, Bool.and_eq_true] at hu
        rw [w2 us hu.2, w1 us hu.1]
end
end
end

/-! ### what is walked -/
structure Src (K : Kw) (J : It) (P : Hp → (Addr → Prop) → Prop) (ds : List PyData) : Prop where
  goes : ∀ i H O, i < ds.length → P H O → J.go i H
  stops : ∀ H O, P H O → J.stop ds.length H
  yields : ∀ i H O x H' d, ds[i]? = some d → P H O → OkO O H → J.yld i H x H' → Same H H' ∧ Rep K H' O x d
/-- P stands while all but the owned objects stand -/
def Firm (P : Hp → (Addr → Prop) → Prop) : Prop := ∀ H O H' O', Ext H O H' O' → P H O → P H' O'
/-- P stands while all objects stand; o: new ones may be owned -/
def Weak (P : Hp → (Addr → Prop) → Prop) : Prop := ∀ H O H' O', Same H H' → (∀ a, O' a → O a ∨ H a = none) → P H O → P H' O'
theorem Firm.weak {P} (f : Firm P) : Weak P := fun H O H' O' s o p => f H O H' O' ⟨fun a u h _ => s a u h, o, fun a u h => ⟨u, s a u h⟩⟩ p
def RI (X : Cx) (W : WX) (c : DL) : TI := fun σ H R => ∃ Hb ρ O, GoodE X.kw Hb O ρ σ H ∧ Post X W O σ H (c ρ) fun ds => ∀ J P H', Same H H' → Src X.kw J P ds → Firm P → P H' O → R J H'
def RIW (X : Cx) (W : WX) (c : DL) : TI := fun σ H R => ∃ Hb ρ O, GoodE X.kw Hb O ρ σ H ∧ Post X W O σ H (c ρ) fun ds => ∀ J P H', Same H H' → Src X.kw J P ds → Weak P → P H' O → R J H'
def itemsD : PyData → Rs (List PyData)
  | .list ds => .ok ds
  | .tuple ds => .ok ds
  | .str x => .ok (x.cps.toList.map fun c => .str ⟨#[c]⟩)
  | _ => stuck
def iD (a : DE) : DL := fun ρ => a ρ >>= itemsD
section
variable {X : Cx} {W : WX} {tg iter a b c e : Expr} {pos : Pos} {ca cb cc : DE} {cs : DL}
theorem pi_imp {w w' : TI} (h : PI X tg iter w) (i : ∀ σ H R, w' σ H R → w σ H R) : PI X tg iter w' := ⟨fun pins s σ H R I q => h.run pins s σ H R I (i σ H R q)⟩
theorem pi_or {w w' : TI} (h : PI X tg iter w) (h' : PI X tg iter w') : PI X tg iter (fun σ H R => w σ H R ∨ w' σ H R) :=
  ⟨fun pins s σ H R I q => q.elim (h.run pins s σ H R I) (h'.run pins s σ H R I)⟩
theorem ri_w (h : PI X tg iter (RI X W cs)) : PI X tg iter (RIW X W cs) := pi_imp h fun σ H R ⟨Hb, ρ, O, g, p⟩ => ⟨Hb, ρ, O, g, p.imp fun ds _ q J P H' s S f => q J P H' s S f.weak⟩
theorem src_list {K : Kw} {a : Addr} {xs : List V} {ds : List PyData} {P : Hp → (Addr → Prop) → Prop} (h : ∀ H O, P H O → SqL K.1 H a xs ∧ Reps K H O xs ds) : Src K (Itl K.1 a) P ds where
  goes := fun i H O hi p => by
    obtain ⟨q, r⟩ := h H O p
    exact walk_list.goes i H (by rw [r.length]; exact hi) q
  stops := fun H O p => by
    obtain ⟨q, r⟩ := h H O p
    rw [← r.length]
    exact walk_list.stops H q
  yields := fun i H O x H' d hd p _ y => by
    obtain ⟨q, r⟩ := h H O p
    obtain ⟨hl, _⟩ := List.getElem?_eq_some_iff.mp hd
    obtain ⟨e1, e2⟩ := walk_list.yields i H x H' (by rw [r.length]; exact hl) q y
    subst e1
    obtain ⟨d', e3, r3⟩ := pr_getL r e2
    rw [hd] at e3; cases e3
    exact ⟨Same.refl _, r3⟩
theorem src_tup {K : Kw} {a : Addr} {xs : List V} {ds : List PyData} {P : Hp → (Addr → Prop) → Prop} (h : ∀ H O, P H O → SqT K.1 H a xs ∧ Reps K H O xs ds) : Src K (Itt K.1 a) P ds where
  goes := fun i H O hi p => by
    obtain ⟨q, r⟩ := h H O p
    exact walk_tup.goes i H (by rw [r.length]; exact hi) q
  stops := fun H O p => by
    obtain ⟨q, r⟩ := h H O p
    rw [← r.length]
    exact walk_tup.stops H q
  yields := fun i H O x H' d hd p _ y => by
    obtain ⟨q, r⟩ := h H O p
    obtain ⟨hl, _⟩ := List.getElem?_eq_some_iff.mp hd
    obtain ⟨e1, e2⟩ := walk_tup.yields i H x H' (by rw [r.length]; exact hl) q y
    subst e1
    obtain ⟨d', e3, r3⟩ := pr_getL r e2
    rw [hd] at e3; cases e3
    exact ⟨Same.refl _, r3⟩
theorem src_str {K : Kw} {x : Str} : Src K (Its x) (fun _ _ => True) (x.cps.toList.map fun c => .str ⟨#[c]⟩) where
  goes := fun i H O hi _ => walk_str.goes i H (by simpa using hi) trivial
  stops := fun H O _ => by
    have := (walk_str (z := x)).stops H trivial
    simpa using this
  yields := fun i H O v H' d hd _ _ y => by
    have hi : i < x.cps.size := by
      obtain ⟨hl, _⟩ := List.getElem?_eq_some_iff.mp hd
      simpa using hl
    obtain ⟨e1, c, e2, e3⟩ := walk_str.yields i H v H' hi trivial y
    subst e1 e3
    rw [List.getElem?_map, Array.getElem?_toList, e2] at hd
    cases hd
    exact ⟨Same.refl _, .str _⟩
theorem src_range {K : Kw} {lo : Int} {n : Nat} : Src K (Itr lo n) (fun _ _ => True) ((List.range n).map fun (i : Nat) => .int (lo + i)) where
  goes := fun i H O hi _ => walk_range.goes i H (by simpa using hi) trivial
  stops := fun H O _ => by
    have := (walk_range (lo := lo) (n := n)).stops H trivial
    simpa using this
  yields := fun i H O v H' d hd _ _ y => by
    have hi : i < n := by
      obtain ⟨hl, _⟩ := List.getElem?_eq_some_iff.mp hd
      simpa using hl
    obtain ⟨e1, e2⟩ := walk_range.yields i H v H' hi trivial y
    subst e1 e2
    rw [List.getElem?_map, List.getElem?_range hi] at hd
    cases hd
    exact ⟨Same.refl _, .int _⟩
theorem firm_true : Firm (fun _ _ => True) := fun _ _ _ _ _ _ => trivial
/-- a value that is walked -/
theorem ri_e (he : PE X iter (RE X W ca)) : PI X tg iter (RI X W (iD ca)) :=
  pi_imp (pi_or (pi_list he) (pi_or (pi_tup he) (pi_str he))) fun σ H R ⟨Hb, ρ, O, g, p⟩ => by
    have p0 := p
    cases hc : ca ρ with
    | error er =>
      have : XW X W O σ H er := by
        have := p
        unfold iD at this
        rw [hc] at this
        exact this
      exact .inl ⟨Hb, ρ, O, g, by rw [hc]; exact this⟩
    | ok d =>
      have p : Post X W O σ H (itemsD d) fun ds => ∀ J P H', Same H H' → Src X.kw J P ds → Firm P → P H' O → R J H' := by
        have := p
        unfold iD at this
        rw [hc] at this
        exact this
      cases d with
      | list ds =>
        refine .inl ⟨Hb, ρ, O, g, ?_⟩
        rw [hc]
        intro v H1 s r
        cases r with
        | @lst a xs _ h r =>
          refine ⟨a, rfl, ⟨xs, h.sql⟩, p _ (fun H' O' => LAt H' O' a xs ∧ Reps X.kw H' O' xs ds) H1 s (src_list fun H' O' z => ⟨z.1.sql, z.2⟩) (fun H O H' O' e z => ⟨z.1.ext e, z.2.ext e⟩) ⟨h, RepAll.iff.mp r⟩⟩
      | tuple ds =>
        refine .inr (.inl ⟨Hb, ρ, O, g, ?_⟩)
        rw [hc]
        intro v H1 s r
        cases r with
        | @tup a xs _ h r =>
          refine ⟨a, rfl, ⟨xs, h.sqt⟩, p _ (fun H' O' => TAt X.kw H' O' a xs ∧ Reps X.kw H' O' xs ds) H1 s (src_tup fun H' O' z => ⟨z.1.sqt, z.2⟩) (fun H O H' O' e z => ⟨z.1.ext e, z.2.ext e⟩) ⟨h, RepAll.iff.mp r⟩⟩
      | str x =>
        refine .inr (.inr ⟨Hb, ρ, O, g, ?_⟩)
        rw [hc]
        intro v H1 s r
        cases r
        exact ⟨x, rfl, p _ _ H1 s src_str firm_true trivial⟩
      | _ => exact False.elim p
/-- a list that may be one's own -/
theorem riw_b (he : PE X iter (RB X W ca)) : PI X tg iter (RIW X W (iD ca)) :=
  pi_imp (pi_or (pi_list he) (pi_or (pi_tup he) (pi_str he))) fun σ H R ⟨Hb, ρ, O, g, p⟩ => by
    cases hc : ca ρ with
    | error er =>
      have : XW X W O σ H er := by
        have := p
        unfold iD at this
        rw [hc] at this
        exact this
      exact .inl ⟨Hb, ρ, O, g, by rw [hc]; exact this⟩
    | ok d =>
      have p : Post X W O σ H (itemsD d) fun ds => ∀ J P H', Same H H' → Src X.kw J P ds → Weak P → P H' O → R J H' := by
        have := p
        unfold iD at this
        rw [hc] at this
        exact this
      cases d with
      | list ds =>
        refine .inl ⟨Hb, ρ, O, g, ?_⟩
        rw [hc]
        intro v H1 s r
        obtain ⟨a, xs, rfl, h, r⟩ := r.lst
        refine ⟨a, rfl, ⟨xs, h⟩, p _ (fun H' O' => SqL X.K H' a xs ∧ Reps X.kw H' O' xs ds) H1 s (src_list fun H' O' z => z) (fun H O H' O' s o z => ⟨s.seq z.1, z.2.ext ⟨fun a u h _ => s a u h, o, fun a u h => ⟨u, s a u h⟩⟩⟩) ⟨h, r⟩⟩
      | tuple ds =>
        refine .inr (.inl ⟨Hb, ρ, O, g, ?_⟩)
        rw [hc]
        intro v H1 s r
        cases r.tupR with
        | @tup a xs _ h r =>
          refine ⟨a, rfl, ⟨xs, h.sqt⟩, p _ (fun H' O' => TAt X.kw H' O' a xs ∧ Reps X.kw H' O' xs ds) H1 s (src_tup fun H' O' z => ⟨z.1.sqt, z.2⟩) (Firm.weak fun H O H' O' e z => ⟨z.1.ext e, z.2.ext e⟩) ⟨h, RepAll.iff.mp r⟩⟩
      | str x =>
        refine .inr (.inr ⟨Hb, ρ, O, g, ?_⟩)
        rw [hc]
        intro v H1 s r
        obtain rfl := r.str
        exact ⟨x, rfl, p _ _ H1 s src_str firm_true.weak trivial⟩
      | _ => exact False.elim p
/-- range -/
def rngL (lo hi : Int) : List PyData := (List.range (hi - lo).toNat).map fun (i : Nat) => .int (lo + i)
def okR (i : Int) : Bool := decide (-(2 ^ 62) ≤ i ∧ i < 2 ^ 62)
def range1D : List PyData → Rs (List PyData)
  | [.int n] => if okR n then .ok (rngL 0 n) else stuck
  | _ => stuck
def range2D : List PyData → Rs (List PyData)
  | [.int m, .int n] => if okR m && okR n then .ok (rngL m n) else stuck
  | _ => stuck
theorem reps_int1 {K H O} {vs : List V} {i : Int} (h : Paired (RepB K H O) vs [.int i]) : vs = [.int i] := by
  obtain ⟨v, rfl, r⟩ := reps1 h
  rw [r.int]
theorem reps_int2 {K H O} {vs : List V} {i j : Int} (h : Paired (RepB K H O) vs [.int i, .int j]) : vs = [.int i, .int j] := by
  obtain ⟨v, w, rfl, r, r'⟩ := reps2 h
  rw [r.int, r'.int]
theorem ri_range1 {p : Pos} (hg : Gl X "range") (hm : X.mg "range" = none) (ha : PA X [a] (RAB X W cs)) (hs : starEach [a] X.env = [(false, eval a X.env)] := by rfl) : PI X tg (.Call (.Name "range" p) [a] [] pos) (RI X W (dCallL range1D cs)) :=
  pi_imp (pi_range1 hg hm ha hs) fun σ H R ⟨Hb, ρ, O, g, q⟩ => RAB.go g q fun ds vs H1 g1 s1 r1 p1 => by
    unfold range1D at p1
    split at p1
    · rename_i n
      split at p1
      · rename_i hk
        have hk := of_decide_eq_true hk
        have e := reps_int1 r1
        refine ⟨n, e, hk.1, hk.2, ?_⟩
        have := p1 (Itr 0 n.toNat) _ H1 s1 (by
          have h := src_range (K := X.kw) (lo := 0) (n := n.toNat)
          unfold rngL
          rw [show n - 0 = n by omega]
          exact h) firm_true trivial
        exact this
      · exact p1.elim
    · exact p1.elim
theorem ri_range2 {p : Pos} (hg : Gl X "range") (hm : X.mg "range" = none) (ha : PA X [a, b] (RAB X W cs)) (hs : starEach [a, b] X.env = [(false, eval a X.env), (false, eval b X.env)] := by rfl) (hs2 : starEach [b] X.env = [(false, eval b X.env)] := by rfl) : PI X tg (.Call (.Name "range" p) [a, b] [] pos) (RI X W (dCallL range2D cs)) :=
  pi_imp (pi_range2 hg hm ha hs hs2) fun σ H R ⟨Hb, ρ, O, g, q⟩ => RAB.go g q fun ds vs H1 g1 s1 r1 p1 => by
    unfold range2D at p1
    split at p1
    · rename_i m n
      split at p1
      · rename_i hk
        rw [Bool.and_eq_true] at hk
        have h1 := of_decide_eq_true hk.1
        have h2 := of_decide_eq_true hk.2
        have e := reps_int2 r1
        exact ⟨m, n, e, ⟨h1.1, h1.2, h2.1, h2.2⟩, p1 (Itr m (n - m).toNat) _ H1 s1 src_range firm_true trivial⟩
      · exact p1.elim
    · exact p1.elim
end

/-! ### list comprehensions -/
def compL (t : Tg) (tt : DT) (e : DE) (ρ : EnvD) : List PyData → Rs (List PyData)
  | [] => .ok []
  | d :: ds => t.d ρ d >>= fun ρ1 => tt ρ1 >>= fun b => if b then e ρ1 >>= fun y => compL t tt e ρ ds >>= fun ys => .ok (y :: ys) else compL t tt e ρ ds
def tYesD : DT := fun _ => .ok true
def noExc {α : Type} : Rs α → Rs α
  | .ok a => .ok a
  | .error _ => stuck
def dComp (it : DL) (vs : List Nat) (t : Tg) (tt : DT) (e : DE) : DL := fun ρ => it ρ >>= fun ds => if t.within vs then noExc (compL t tt e (wipeD ρ vs) ds) >>= fun out => if okLen out.length then .ok out else stuck else stuck
/-- two fors -/
def comp2L (t : Tg) (tt : DT) (it1 : DL) (vs1 : List Nat) (t1 : Tg) (tt1 : DT) (e : DE) (ρ : EnvD) : List PyData → Rs (List PyData)
  | [] => .ok []
  | d :: ds => t.d ρ d >>= fun ρ1 => tt ρ1 >>= fun b => if b then it1 ρ1 >>= fun ds1 => compL t1 tt1 e (wipeD ρ1 vs1) ds1 >>= fun xs => comp2L t tt it1 vs1 t1 tt1 e ρ ds >>= fun ys => .ok (xs ++ ys) else comp2L t tt it1 vs1 t1 tt1 e ρ ds
def dComp2 (it : DL) (vs : List Nat) (t : Tg) (tt : DT) (it1 : DL) (vs1 : List Nat) (t1 : Tg) (tt1 : DT) (e : DE) : DL := fun ρ => it ρ >>= fun ds => if t.within vs && t1.within vs1 then noExc (comp2L t tt it1 vs1 t1 tt1 e (wipeD ρ vs) ds) >>= fun out => if okLen out.length then .ok out else stuck else stuck
abbrev W0 : WX := fun _ _ _ _ => False
theorem drop_cons {α : Type} {l : List α} {i : Nat} (h : i < l.length) : ∃ d, l[i]? = some d ∧ l.drop i = d :: l.drop (i + 1) := ⟨l[i], by simp [h], List.drop_eq_getElem_cons h⟩
theorem wipe_wipe (σ : St) (vs : List Nat) : wipe (wipe σ vs) vs = wipe σ vs := by
  have wi : ∀ us : List Nat, (∀ i ∈ us, i ∈ vs) → wipe (wipe σ vs) us = wipe σ vs := by
    intro us
    induction us with
    | nil => intro _; rfl
    | cons u us ih =>
      intro hu
      show (wipe (wipe σ vs) us).set u none = wipe σ vs
      rw [ih fun i hi => hu i (List.mem_cons_of_mem _ hi)]
      have : ∀ ws : List Nat, u ∈ ws → (wipe σ ws).set u none = wipe σ ws := by
        intro ws
        induction ws with
        | nil => intro h; cases h
        | cons w ws ih2 =>
          intro h
          show ((wipe σ ws).set w none).set u none = (wipe σ ws).set w none
          by_cases e : u = w
          · subst e; rw [List.set_set]
          · rw [List.set_comm _ _ (Ne.symm e), ih2 ((List.mem_cons.mp h).resolve_left e)]
      exact this vs (hu u List.mem_cons_self)
  exact wi vs fun _ h => h
section
variable {X : Cx} {W : WX} {it it1 : DL} {vs vs1 : List Nat} {t t1 : Tg} {tt tt1 : DT} {e : DE}
theorem ok_bind {α β : Type} {r : Rs α} {k : α → Rs β} {b : β} (h : (r >>= k) = .ok b) : ∃ a, r = .ok a ∧ k a = .ok b := by
  cases r with
  | ok a => exact ⟨a, rfl, h⟩
  | error x => cases h
/-- behind an error nothing is asked in a comprehension -/
theorem Post.w0 {O : Addr → Prop} {σ : St} {H : Hp} {α : Type} {r : Rs α} {P : α → Prop} {x : α} (e : r = .ok x) (p : P x) : Post X W0 O σ H r P := by
  rw [e]; exact p
theorem ext_app {H : Hp} {O : Addr → Prop} {D : Addr} {o : HO} (hO : O D) : Ext H O (upd H D o) O :=
  ⟨fun a u h n => by rw [upd_ne (fun z => n (by rw [z]; exact hO))]; exact h, fun a h => .inl h, fun a u h => by
    by_cases z : a = D
    · subst z; exact ⟨_, upd_same⟩
    · exact ⟨u, by rw [upd_ne z]; exact h⟩⟩
/-- all but D stands -/
def But (D : Addr) (H H' : Hp) : Prop := ∀ a o, a ≠ D → H a = some o → H' a = some o
theorem lc_loop {J : It} {P : Hp → (Addr → Prop) → Prop} {ds : List PyData} {Hb : Hp} {O' : Addr → Prop} {Hs : Hp} {D : Addr} {acc0 : List V} {dacc0 ys : List PyData} {ρ : EnvD} {σ : St} {Qd : Hp → Prop} (S : Src X.kw J P ds)
    (hP : ∀ H' acc, But D Hs H' → H' D = some (.lst acc) → P H' O') (hD : Hb D = none) (hO : O' D) (h0 : Hs D = some (.lst acc0)) (r0 : Reps X.kw Hs O' acc0 dacc0) (hw : t.within vs = true) (hc : compL t tt e (wipeD ρ vs) ds = .ok ys) (hlen : (dacc0 ++ ys).length ≤ sizeLine)
    (g : GoodE X.kw Hb O' ρ σ Hs) (fin : ∀ H' acc, But D Hs H' → H' D = some (.lst acc) → Reps X.kw H' O' acc (dacc0 ++ ys) → Qd H') :
    ∃ W : Nat → Nat → Hp → Prop, (∃ m, W 0 m Hs) ∧ ∀ i m H, W i m H →
      (J.stop i H ∧ Qd H) ∨ (J.go i H ∧ ∃ Nx : Hp → Prop, (∀ H', Nx H' → ∃ m', m' < m ∧ W (i + 1) m' H') ∧ ∀ x H', J.yld i H x H' → (t.g X.kw) x (wipe σ vs) H' fun σ2 H2 => wipe σ2 vs = wipe σ vs ∧ (RT X W0 tt) σ2 H2 fun b H3 =>
        if b = true then (RE X W0 e) σ2 H3 fun y H4 => ∃ acc, H4 D = some (.lst acc) ∧ acc.length < sizeLine ∧ Nx (upd H4 D (.lst (acc ++ [y]))) else Nx H3) := by
  let Pv : Nat → Hp → Prop := fun i H' => ∃ acc dacc rest, H' D = some (.lst acc) ∧ Reps X.kw H' O' acc dacc ∧ But D Hs H' ∧ compL t tt e (wipeD ρ vs) (ds.drop i) = .ok rest ∧ dacc ++ rest = dacc0 ++ ys
  refine ⟨fun i m H => m = ds.length - i ∧ i ≤ ds.length ∧ Pv i H, ⟨ds.length, by simp, Nat.zero_le _, acc0, dacc0, ys, h0, r0, fun _ _ _ h => h, by simpa using hc, rfl⟩, ?_⟩
  rintro i m H2 ⟨rfl, hi, acc, dacc, rest, h1, r1, s', hc1, hout⟩
  have p2 := hP H2 acc s' h1
  by_cases hlt : i < ds.length
  · refine .inr ⟨S.goes i H2 O' hlt p2, Pv (i + 1), fun H' p' => ⟨ds.length - (i + 1), by omega, rfl, hlt, p'⟩, fun x H3 hy => ?_⟩
    obtain ⟨d, hd, hdrop⟩ := drop_cons hlt
    have ex : Ext Hs O' H2 O' := ⟨fun a o h n => s' a o (fun z => n (z ▸ hO)) h, fun a h => .inl h, fun a o h => by
      by_cases z : a = D
      · exact ⟨_, by rw [z]; exact h1⟩
      · exact ⟨o, s' a o z h⟩⟩
    have g0 : GoodE X.kw Hb O' ρ σ H2 := g.wider (fun a o h => s' a o (fun z => by rw [z, hD] at h; cases h) (g.same a o h)) ex fun a h => by
      obtain ⟨o, q⟩ := g.dom a h
      exact ex.there a o q
    obtain ⟨s3, rx⟩ := S.yields i H2 O' x H3 d hd p2 g0.dom hy
    rw [hdrop, compL] at hc1
    obtain ⟨ρ1, ht, hc1⟩ := ok_bind hc1
    obtain ⟨b, htt, hc1⟩ := ok_bind hc1
    refine Tg.go GoodE.setOk t ((g0.to s3).wipe vs) rx ht fun σ2 g3 hwp => ⟨by rw [hwp vs hw, wipe_wipe], Hb, ρ1, _, g3, Post.w0 htt fun H4 s4 => ?_⟩
    cases b with
    | false => exact ⟨acc, dacc, rest, s4 _ _ (s3 _ _ h1), r1.ext (Ext.same (s3.trans s4)), fun a o n h => s4 a o (s3 a o (s' a o n h)), hc1, hout⟩
    | true =>
      obtain ⟨y, he, hc1⟩ := ok_bind hc1
      obtain ⟨ys', hrest, hc1⟩ := ok_bind hc1
      cases hc1
      refine ⟨Hb, ρ1, _, g3.to s4, Post.w0 he fun yv H5 s5 ry => ?_⟩
      have sall := s3.trans (s4.trans s5)
      have hD5 : H5 D = some (.lst acc) := sall _ _ h1
      have el : acc.length = dacc.length := r1.length
      have el2 := congrArg List.length hout
      simp only [List.length_append, List.length_cons] at el2 hlen
      refine ⟨acc, hD5, by omega, acc ++ [yv], dacc ++ [y], ys', upd_same, pr_append ((r1.ext (Ext.same sall)).ext (ext_app hO)) (pr_one (ry.ext (ext_app hO))), ?_, hrest, by simpa using hout⟩
      intro a o n h
      rw [upd_ne n]
      exact sall a o (s' a o n h)
  · have ei : i = ds.length := by omega
    subst ei
    rw [List.drop_length, compL] at hc1
    cases hc1
    rw [List.append_nil] at hout
    exact .inl ⟨S.stops H2 O' p2, fin H2 acc s' h1 (by rw [← hout]; exact r1)⟩
/-- the state at a comprehension's beginning, its new list at D -/
theorem GoodE.begin {K : Kw} {Hb : Hp} {O : Addr → Prop} {ρ : EnvD} {σ : St} {H1 : Hp} {D : Addr} (g : GoodE K Hb O ρ σ H1) (hD : H1 D = none) : GoodE K H1 (fun b => O b ∨ b = D) ρ σ (upd H1 D (.lst [])) :=
  (show GoodE K H1 O ρ σ H1 from ⟨g.len, Same.refl H1, g.dom, g.dat, fun i ds h => (g.bor i ds h).elim fun a h => h.elim fun vs h => ⟨a, vs, h.1, g.same.seq h.2.1, h.2.2⟩, fun i kvs h => (g.bod i kvs h).elim fun z h => h.elim fun a h => h.elim fun o h => ⟨z, a, o, h.1, g.same a o h.2.1, h.2.2⟩⟩).wider (same_upd hD) (ext_new hD) fun a ha => by
    rcases ha with ha | rfl
    · obtain ⟨o, e1⟩ := g.dom a ha
      exact ⟨o, same_upd hD a o e1⟩
    · exact ⟨_, upd_same⟩
theorem but_same {H1 H' : Hp} {D : Addr} {o : HO} (hD : H1 D = none) (b : But D (upd H1 D o) H') : Same H1 H' := fun a u h => b a u (ne_of_none h hD) (same_upd hD a u h)
theorem lc_go {σ H Q} (h : RL X W (dComp it vs t tt e) σ H Q) : tLc (RIW X W it) (t.g X.kw) (RT X W0 tt) (RE X W0 e) vs σ H Q := by
  obtain ⟨Hb, ρ, O, g, p⟩ := h
  refine ⟨Hb, ρ, O, g, p.bind.imp fun ds _ p J P H1 s1 S wk hP => ?_⟩
  intro D hD
  split at p
  · rename_i hw
    cases hr : compL t tt e (wipeD ρ vs) ds with
    | error er => rw [hr] at p; exact p.elim
    | ok out =>
      rw [hr] at p
      have p : Post X W O σ H (if okLen out.length = true then .ok out else stuck) fun ds => ∀ a vs H', Same H H' → H a = none → H' a = some (.lst vs) → Reps X.kw H' (fun b => O b ∨ b = a) vs ds → Q (.ref a) H' := p
      split at p
      · rename_i hz
        have oo : ∀ a, (O a ∨ a = D) → O a ∨ H1 a = none := fun a h => h.elim .inl fun e => .inr (e ▸ hD)
        exact lc_loop (O' := fun b => O b ∨ b = D) (dacc0 := []) S (fun H' acc b _ => wk H1 O H' _ (but_same hD b) oo hP) hD (.inr rfl) upd_same .nil hw hr (by simpa using of_decide_eq_true hz) ((g.to s1).begin hD)
          (fun H' acc b hd r => p D acc H' (s1.trans (but_same hD b)) (s1.free hD) hd (by simpa using r))
      · exact p.elim
  · exact p.elim
theorem lc2_go {σ H Q} (h : RL X W (dComp2 it vs t tt it1 vs1 t1 tt1 e) σ H Q) : tLc2 (RIW X W it) (t.g X.kw) (RT X W0 tt) (RI X W0 it1) (t1.g X.kw) (RT X W0 tt1) (RE X W0 e) vs vs1 σ H Q := by
  obtain ⟨Hb, ρ, O, g, p⟩ := h
  refine ⟨Hb, ρ, O, g, p.bind.imp fun ds _ p J P H1 s1 S wk hP => ?_⟩
  intro D hD
  split at p
  · rename_i hw
    rw [Bool.and_eq_true] at hw
    cases hr : comp2L t tt it1 vs1 t1 tt1 e (wipeD ρ vs) ds with
    | error er => rw [hr] at p; exact p.elim
    | ok out =>
      rw [hr] at p
      have p : Post X W O σ H (if okLen out.length = true then .ok out else stuck) fun ds => ∀ a vs H', Same H H' → H a = none → H' a = some (.lst vs) → Reps X.kw H' (fun b => O b ∨ b = a) vs ds → Q (.ref a) H' := p
      split at p
      · rename_i hz
        have hz := of_decide_eq_true hz
        have oo : ∀ a, (O a ∨ a = D) → O a ∨ H1 a = none := fun a h => h.elim .inl fun e => .inr (e ▸ hD)
        have hO : (fun b => O b ∨ b = D) D := .inr rfl
        have gb := (g.to s1).begin hD
        let Pv : Nat → Hp → Prop := fun i H' => ∃ acc dacc rest, H' D = some (.lst acc) ∧ Reps X.kw H' (fun b => O b ∨ b = D) acc dacc ∧ Same H1 H' ∧ comp2L t tt it1 vs1 t1 tt1 e (wipeD ρ vs) (ds.drop i) = .ok rest ∧ dacc ++ rest = out
        refine ⟨fun i m H => m = ds.length - i ∧ i ≤ ds.length ∧ Pv i H, ⟨ds.length, by simp, Nat.zero_le _, [], [], out, upd_same, .nil, same_upd hD, by simpa using hr, rfl⟩, ?_⟩
        rintro i m H2 ⟨rfl, hi, acc, dacc, rest, h1, r1, s', hc1, hout⟩
        have p2 := wk H1 O H2 _ s' oo hP
        by_cases hlt : i < ds.length
        · refine .inr ⟨S.goes i H2 _ hlt p2, Pv (i + 1), fun H' p' => ⟨ds.length - (i + 1), by omega, rfl, hlt, p'⟩, fun x H3 hy => ?_⟩
          obtain ⟨d, hd, hdrop⟩ := drop_cons hlt
          have ex : Ext (upd H1 D (.lst [])) (fun b => O b ∨ b = D) H2 (fun b => O b ∨ b = D) := ⟨fun a o h n => s' a o (by rw [upd_ne (fun z => n (.inr z))] at h; exact h), fun a h => .inl h, fun a o h => by
            by_cases z : a = D
            · exact ⟨_, by rw [z]; exact h1⟩
            · rw [upd_ne z] at h; exact ⟨o, s' a o h⟩⟩
          have g0 : GoodE X.kw H1 (fun b => O b ∨ b = D) ρ σ H2 := gb.wider s' ex fun a h => by
            obtain ⟨o, q⟩ := gb.dom a h
            exact ex.there a o q
          obtain ⟨s3, rx⟩ := S.yields i H2 _ x H3 d hd p2 g0.dom hy
          rw [hdrop, comp2L] at hc1
          obtain ⟨ρ1, ht, hc1⟩ := ok_bind hc1
          obtain ⟨b, htt, hc1⟩ := ok_bind hc1
          refine Tg.go GoodE.setOk t ((g0.to s3).wipe vs) rx ht fun σ2 g3 hwp => ⟨by rw [hwp vs hw.1, wipe_wipe], H1, ρ1, _, g3, Post.w0 htt fun H4 s4 => ?_⟩
          cases b with
          | false => exact ⟨acc, dacc, rest, s4 _ _ (s3 _ _ h1), r1.ext (Ext.same (s3.trans s4)), s'.trans (s3.trans s4), hc1, hout⟩
          | true =>
            obtain ⟨ds1, hi1, hc1⟩ := ok_bind hc1
            obtain ⟨xs, hx1, hc1⟩ := ok_bind hc1
            obtain ⟨ys', hrest, hc1⟩ := ok_bind hc1
            cases hc1
            refine ⟨H1, ρ1, _, g3.to s4, Post.w0 hi1 fun J1 P1 H5 s5 S1 fm hP1 => ?_⟩
            have sall := s3.trans (s4.trans s5)
            have hD5 : H5 D = some (.lst acc) := sall _ _ h1
            have hsub := congrArg List.length hout
            simp only [List.length_append] at hsub
            refine lc_loop (Hs := H5) (dacc0 := dacc) (ys := xs) S1 (fun H' acc' b h' => ?_) hD hO hD5 (r1.ext (Ext.same sall)) hw.2 hx1 (by simp only [List.length_append]; omega) ((g3.to s4).to s5) fun H' acc' b h' r' => ?_
            · refine fm H5 _ H' _ ⟨fun a o h n => b a o (fun z => n (.inr z)) h, fun a h => .inl h, fun a o h => ?_⟩ hP1
              by_cases z : a = D
              · exact ⟨_, by rw [z]; exact h'⟩
              · exact ⟨o, b a o z h⟩
            · exact ⟨acc', dacc ++ xs, ys', h', r', fun a o h => b a o (ne_of_none h hD) (sall a o (s' a o h)), hrest, by rw [← hout, List.append_assoc]⟩
        · have ei : i = ds.length := by omega
          subst ei
          rw [List.drop_length, comp2L] at hc1
          cases hc1
          rw [List.append_nil] at hout
          subst hout
          exact .inl ⟨S.stops H2 _ p2, p D acc H2 (s1.trans s') (s1.free hD) h1 r1⟩
      · exact p.elim
  · exact p.elim
/-- [e for t in it if tt] -/
theorem rl_lc {elt tg iter : Expr} {ifs : List Expr} {scope : Scope} {own : List (Str × Nat)} {pos : Pos} (hc : X.calm = true) (hN : X.N.Nodup) (hi : PI X tg iter (RIW X W it)) (ok : BlkOk X.N X.env.scope scope own)
    (hg : ∀ (s : Shared) (H : Hp) (C : Addr) (cl : List (Str × Addr)) (fp : List Addr), PG (X.blk s H scope (compEnvC scope cl C X.env) fp) tg (t.g X.kw)) (ht : ∀ (s : Shared) (H : Hp) (C : Addr) (cl : List (Str × Addr)) (fp : List Addr), PTs (X.blk s H scope (compEnvC scope cl C X.env) fp) ifs (RT (X.blk s H scope (compEnvC scope cl C X.env) fp) W0 tt))
    (he : ∀ (s : Shared) (H : Hp) (C : Addr) (cl : List (Str × Addr)) (fp : List Addr), PE (X.blk s H scope (compEnvC scope cl C X.env) fp) elt (RE (X.blk s H scope (compEnvC scope cl C X.env) fp) W0 e)) (hs : ∀ x, foldedSetIterable iter X.env x = pure x := by intro _; rfl) :
    PE X (.ListComp elt [⟨tg, iter, ifs, 0⟩] scope pos) (RL X W (dComp it (own.map (·.2)) t tt e)) := pe_imp (pe_lc hc hN hi ok hg ht he hs) fun σ H Q h => lc_go h
/-- [e for t in it if tt for t1 in it1 if tt1] -/
theorem rl_lc2 {elt tg iter tg1 iter1 : Expr} {ifs ifs1 : List Expr} {scope : Scope} {own : List (Str × Nat)} {pos : Pos} (hc : X.calm = true) (hN : X.N.Nodup) (hi : PI X tg iter (RIW X W it)) (ok : BlkOk X.N X.env.scope scope own) (hv : ∀ i ∈ vs1, i ∈ own.map (·.2))
    (hg : ∀ (s : Shared) (H : Hp) (C : Addr) (cl : List (Str × Addr)) (fp : List Addr), PG (X.blk s H scope (compEnvC scope cl C X.env) fp) tg (t.g X.kw)) (ht : ∀ (s : Shared) (H : Hp) (C : Addr) (cl : List (Str × Addr)) (fp : List Addr), PTs (X.blk s H scope (compEnvC scope cl C X.env) fp) ifs (RT (X.blk s H scope (compEnvC scope cl C X.env) fp) W0 tt))
    (hi1 : ∀ (s : Shared) (H : Hp) (C : Addr) (cl : List (Str × Addr)) (fp : List Addr), PI (X.blk s H scope (compEnvC scope cl C X.env) fp) tg1 iter1 (RI (X.blk s H scope (compEnvC scope cl C X.env) fp) W0 it1))
    (hg1 : ∀ (s : Shared) (H : Hp) (C : Addr) (cl : List (Str × Addr)) (fp : List Addr), PG (X.blk s H scope (compEnvC scope cl C X.env) fp) tg1 (t1.g X.kw)) (ht1 : ∀ (s : Shared) (H : Hp) (C : Addr) (cl : List (Str × Addr)) (fp : List Addr), PTs (X.blk s H scope (compEnvC scope cl C X.env) fp) ifs1 (RT (X.blk s H scope (compEnvC scope cl C X.env) fp) W0 tt1))
    (he : ∀ (s : Shared) (H : Hp) (C : Addr) (cl : List (Str × Addr)) (fp : List Addr), PE (X.blk s H scope (compEnvC scope cl C X.env) fp) elt (RE (X.blk s H scope (compEnvC scope cl C X.env) fp) W0 e)) (hs : ∀ x, foldedSetIterable iter X.env x = pure x := by intro _; rfl) (hs1 : ∀ env x, foldedSetIterable iter1 env x = pure x := by intro _ _; rfl) :
    PE X (.ListComp elt [⟨tg, iter, ifs, 0⟩, ⟨tg1, iter1, ifs1, 0⟩] scope pos) (RL X W (dComp2 it (own.map (·.2)) t tt it1 vs1 t1 tt1 e)) := pe_imp (pe_lc2 hc hN hi ok hv hg ht hi1 hg1 ht1 he hs hs1) fun σ H Q h => lc2_go h
end
end Den

set_option Elab.async false
set_option linter.all false
set_option maxRecDepth 100000
set_option maxHeartbeats 4000000
namespace Den
open PySem PySem.Spec PyProof.Rows L2

/-! ### statements -/
inductive Out where
  | nx (ρ : EnvD)
  | rt (d : PyData)
  | bk (ρ : EnvD)
  | ct (ρ : EnvD)
  | xc (n : String) (p : Option (String × PyData)) (ρ : EnvD)
abbrev DS := EnvD → Rs Out
/-- an expression in a statement: its own error is the statement's -/
def lift {α : Type} (r : Rs α) (ρ : EnvD) (k : α → Rs Out) : Rs Out := match r with
  | .ok a => k a
  | .error .stuck => stuck
  | .error (.exc n p) => .ok (.xc n p ρ)
def sSkip : DS := fun ρ => .ok (.nx ρ)
def sSeq (a b : DS) : DS := fun ρ => match a ρ with
  | .ok (.nx ρ') => b ρ'
  | r => r
def sIf (t : DT) (a b : DS) : DS := fun ρ => lift (t ρ) ρ fun x => if x then a ρ else b ρ
def sSet (i : Nat) (e : DE) : DS := fun ρ => lift (e ρ) ρ fun d => .ok (.nx (ρ.set i (.dat d)))
def sOwn (i : Nat) (e : DL) : DS := fun ρ => lift (e ρ) ρ fun ds => .ok (.nx (ρ.set i (.ol ds)))
def sTg (t : Tg) (e : DE) : DS := fun ρ => lift (e ρ) ρ fun d => t.d ρ d >>= fun ρ' => .ok (.nx ρ')
def sDrop (e : DE) : DS := fun ρ => lift (e ρ) ρ fun _ => .ok (.nx ρ)
def sRet (e : DE) : DS := fun ρ => lift (e ρ) ρ fun d => .ok (.rt d)
def sRetN : DS := fun _ => .ok (.rt .none)
def sBreak : DS := fun ρ => .ok (.bk ρ)
def sCont : DS := fun ρ => .ok (.ct ρ)
def sRaise (n : String) : DS := fun ρ => .ok (.xc n none ρ)
def forD (t : Tg) (b : DS) : List PyData → EnvD → Rs Out
  | [], ρ => .ok (.nx ρ)
  | d :: ds, ρ => t.d ρ d >>= fun ρ1 => b ρ1 >>= fun o => match o with
    | .nx ρ2 => forD t b ds ρ2
    | .ct ρ2 => forD t b ds ρ2
    | .bk ρ2 => .ok (.nx ρ2)
    | o => .ok o
def sFor (it : DL) (t : Tg) (b : DS) : DS := fun ρ => lift (it ρ) ρ fun ds => forD t b ds ρ
def whileD (t : DT) (b : DS) : Nat → EnvD → Rs Out
  | 0, _ => stuck
  | n + 1, ρ => lift (t ρ) ρ fun x => if x then b ρ >>= fun o => match o with
      | .nx ρ2 => whileD t b n ρ2
      | .ct ρ2 => whileD t b n ρ2
      | .bk ρ2 => .ok (.nx ρ2)
      | o => .ok o
    else .ok (.nx ρ)
def sWhile (fuel : Nat) (t : DT) (b : DS) : DS := whileD t b fuel
/-- a list of one's own changes no more -/
def frzD (i : Nat) (ρ : EnvD) : EnvD := match ρ[i]? with
  | some (.ol ds) => ρ.set i (.dat (.list ds))
  | _ => ρ
def sFrz (i : Nat) (b : DS) : DS := fun ρ => b (frzD i ρ)

section
variable (X : Cx) (G : Gd) (W : WX)
def OutP (D : Ends) (H : Hp) (O : Addr → Prop) : Out → Prop
  | .nx ρ' => ∀ σ' H' O', Ext H O H' O' → Good X.kw G O' ρ' σ' H' → D.nx σ' H'
  | .bk ρ' => ∀ σ' H' O', Ext H O H' O' → Good X.kw G O' ρ' σ' H' → D.bk σ' H'
  | .ct ρ' => ∀ σ' H' O', Ext H O H' O' → Good X.kw G O' ρ' σ' H' → D.ct σ' H'
  | .rt d => ∀ v H' O', Ext H O H' O' → Same G.H0 H' → Rep X.kw H' G.O0 v d → D.rt v H'
  | .xc n none ρ' => ∃ C, X.mg n = some (.ref C) ∧ ∀ σ' H' O', Ext H O H' O' → Good X.kw G O' ρ' σ' H' → W (.ref C) none σ' H'
  | .xc n (some (f, p)) ρ' => ∃ C, X.mg n = some (.ref C) ∧ ∀ σ' H' O' dd v, Ext H O H' O' → Good X.kw G O' ρ' σ' H' → H' dd = some (.xd [((f : Str), v)]) → Rep X.kw H' O' v p → W (.ref C) (some dd) σ' H'
def OutR (D : Ends) (H : Hp) (O : Addr → Prop) (r : Rs Out) : Prop := match r with
  | .ok o => OutP X G W D H O o
  | .error _ => False
def RS (c : DS) : TS := fun D σ H => ∃ ρ O, Good X.kw G O ρ σ H ∧ OutR X G W D H O (c ρ)
end
section
variable {X : Cx} {G : Gd} {W : WX} {D : Ends} {O O' : Addr → Prop} {ρ : EnvD} {σ : St} {H H' : Hp}
theorem OutP.ext {o : Out} (e : Ext H O H' O') (h : OutP X G W D H O o) : OutP X G W D H' O' o := by
  cases o with
  | nx ρ' => exact fun σ' H2 O2 f g => h σ' H2 O2 (e.trans f) g
  | bk ρ' => exact fun σ' H2 O2 f g => h σ' H2 O2 (e.trans f) g
  | ct ρ' => exact fun σ' H2 O2 f g => h σ' H2 O2 (e.trans f) g
  | rt d => exact fun v H2 O2 f s r => h v H2 O2 (e.trans f) s r
  | xc n p ρ' =>
    cases p with
    | none =>
      obtain ⟨C, hm, h⟩ := h
      exact ⟨C, hm, fun σ' H2 O2 f g => h σ' H2 O2 (e.trans f) g⟩
    | some fp =>
      obtain ⟨fl, p⟩ := fp
      obtain ⟨C, hm, h⟩ := h
      exact ⟨C, hm, fun σ' H2 O2 dd v f g => h σ' H2 O2 dd v (e.trans f) g⟩
theorem OutR.ext {r : Rs Out} (e : Ext H O H' O') (h : OutR X G W D H O r) : OutR X G W D H' O' r := by
  cases r with
  | ok o => exact OutP.ext e h
  | error z => exact h
/-- an expression in a statement -/
theorem OutR.lift {α : Type} {r : Rs α} {k : α → Rs Out} {P : α → Prop} (g : Good X.kw G O ρ σ H) (h : OutR X G W D H O (lift r ρ k)) (f : ∀ a, r = .ok a → OutR X G W D H O (k a) → P a) : Post X W O σ H r P := by
  cases r with
  | ok a => exact f a rfl h
  | error z =>
    cases z with
    | stuck => exact h
    | exc n p =>
      cases p with
      | none =>
        obtain ⟨C, hm, h⟩ := h
        exact ⟨C, hm, fun H' s => h σ H' O (Ext.same s) (g.to s)⟩
      | some fp =>
        obtain ⟨fl, p⟩ := fp
        obtain ⟨C, hm, h⟩ := h
        exact ⟨C, hm, fun H' dd v s e r => h σ H' O dd v (Ext.same s) (g.to s) e r⟩
theorem OutR.bind {α : Type} {r : Rs α} {k : α → Rs Out} (h : OutR X G W D H O (r >>= k)) : ∃ a, r = .ok a ∧ OutR X G W D H O (k a) := by
  cases r with
  | ok a => exact ⟨a, rfl, h⟩
  | error z => exact h.elim
end
section
variable {X : Cx} {G : Gd} {W : WX} {st : Stmt} {rest : List Stmt} {e iter tg : Expr} {pos : Pos} {ca cb : DS} {ce : DE} {cl : DL} {ct : DT}
theorem rs_nil : PSs X [] (RS X G W sSkip) := pss_imp pss_nil fun D σ H ⟨ρ, O, g, p⟩ => p σ H O Ext.refl g
theorem rs_pass : PS X (.Pass pos) (RS X G W sSkip) := ps_imp ps_pass fun D σ H ⟨ρ, O, g, p⟩ => p σ H O Ext.refl g
theorem seq_go {D : Ends} {σ : St} {H : Hp} (h : RS X G W (sSeq ca cb) D σ H) : tSeq (RS X G W ca) (RS X G W cb) D σ H := by
  obtain ⟨ρ, O, g, p⟩ := h
  refine ⟨ρ, O, g, ?_⟩
  unfold sSeq at p
  cases hc : ca ρ with
  | error z => rw [hc] at p; exact p.elim
  | ok o =>
    rw [hc] at p
    cases o with
    | nx ρ' => exact fun σ' H' O' f g' => ⟨ρ', O', g', OutR.ext f p⟩
    | xc n pl ρ' =>
      cases pl with
      | none => exact p
      | some fp => obtain ⟨fl, pp⟩ := fp; exact p
    | _ => exact p
theorem rs_cons (h1 : PS X st (RS X G W ca)) (h2 : PSs X rest (RS X G W cb)) : PSs X (st :: rest) (RS X G W (sSeq ca cb)) := pss_imp (pss_cons h1 h2) fun D σ H h => seq_go h
theorem rs_one (h1 : PS X st (RS X G W ca)) : PSs X [st] (RS X G W ca) := pss_one h1
theorem rs_if {c : Expr} {a b : List Stmt} (hc : PT X c (RT X W ct)) (ha : PSs X a (RS X G W ca)) (hb : PSs X b (RS X G W cb)) : PS X (.If c a b pos) (RS X G W (sIf ct ca cb)) :=
  ps_imp (ps_if hc ha hb) fun D σ H ⟨ρ, O, g, p⟩ => ⟨H, ρ, O, g.e, OutR.lift g p fun b _ p H' s => by
    cases b with
    | true => exact ⟨ρ, O, g.to s, OutR.ext (Ext.same s) p⟩
    | false => exact ⟨ρ, O, g.to s, OutR.ext (Ext.same s) p⟩⟩
theorem set_go {i : Nat} {D : Ends} {σ : St} {H : Hp} (h : RS X G W (sSet i ce) D σ H) : tAsg (RE X W ce) (gName i) D σ H := by
  obtain ⟨ρ, O, g, p⟩ := h
  exact ⟨H, ρ, O, g.e, OutR.lift g p fun d _ p v H' s r => p _ H' O (Ext.same s) ((g.to s).set i r)⟩
theorem rs_set {i : Nat} {x : Str} {pos' : Pos} (hN : X.N.Nodup) (hi : X.N[i]? = some x) (hx : Loc X.env.scope x) (he : PE X e (RE X W ce)) (hs : swapsWith e (some (.Name x pos')) pos.line X.env = pure false := by rfl) (hf : X.fn x = true ∨ X.env.scope.names.lookup x = some .local := by first | exact .inl rfl | exact .inr rfl | assumption) :
    PS X (.Assign [.Name x pos'] e pos) (RS X G W (sSet i ce)) := ps_imp (ps_set hN hi hx he hs hf) fun D σ H h => set_go h
/-- what stands for an object of one's own -/
def OwnAt (K : Kw) (H : Hp) (O : Addr → Prop) (a : Addr) : B → Prop
  | .ol ds => ∃ vs, H a = some (.lst vs) ∧ Reps K H O vs ds
  | .od kvs => DAt K H O false a kvs
  | _ => False
theorem OwnAt.own {K H O a x} (h : OwnAt K H O a x) : x.own = true := by
  cases x <;> first | rfl | exact False.elim h
theorem OwnAt.there {K H O a x} (h : OwnAt K H O a x) : ∃ o, H a = some o := by
  cases x with
  | ol ds => obtain ⟨vs, e, _⟩ := h; exact ⟨_, e⟩
  | od kvs => exact DAt.there h
  | _ => exact False.elim h
theorem Good.at {K : Kw} {O : Addr → Prop} {ρ : EnvD} {σ : St} {H : Hp} (g : Good K G O ρ σ H) {i : Nat} {x : B} (hx : ρ[i]? = some x) (ho : x.own = true) : ∃ a, σ[i]? = some (some (.ref a)) ∧ OwnAt K H O a x ∧ O a ∧ G.H0 a = none := by
  cases x with
  | ol ds => obtain ⟨a, vs, e, h, r, o, f⟩ := g.ol i ds hx; exact ⟨a, e, ⟨vs, h, r⟩, o, f⟩
  | od kvs => obtain ⟨a, e, h, o, f⟩ := g.od i kvs hx; exact ⟨a, e, h, o, f⟩
  | _ => cases ho
theorem Good.put {K : Kw} {O : Addr → Prop} {ρ : EnvD} {σ : St} {H H' : Hp} {a : Addr} {x : B} (g : Good K G O ρ σ H) (i : Nat) (s : Same H H') (n : H a = none) (h : OwnAt K H' (fun b => O b ∨ b = a) a x) :
    Good K G (fun b => O b ∨ b = a) (ρ.set i x) (σ.set i (some (.ref a))) H' := by
  have okO : OkO (fun b => O b ∨ b = a) H' := fun b hb => by
    rcases hb with hb | rfl
    · obtain ⟨o, e⟩ := g.dom b hb
      exact ⟨o, s b o e⟩
    · exact h.there
  have g1 : Good K G (fun b => O b ∨ b = a) ρ σ H' := g.wider s (fun _ h => .inl h) (fun b hb => hb.elim .inl fun z => .inr (z ▸ n)) okO
  have ne : ∀ (j : Nat) (y : B), ρ[j]? = some y → y.own = true → σ[j]? ≠ some (some (.ref a)) := fun j y hj ho hs => by
    obtain ⟨b, e1, h1, _⟩ := g.at hj ho
    obtain ⟨o, z⟩ := h1.there
    rw [hs] at e1
    cases e1
    rw [n] at z; cases z
  have n0 : G.H0 a = none := by
    cases q : G.H0 a with
    | none => rfl
    | some o => rw [g.same a o q] at n; cases n
  exact
  { len := by rw [List.length_set, List.length_set]; exact g.len
    same := g1.same
    sub := g1.sub
    dom := g1.dom
    dat := fun j d hj => by
      rcases set_some hj with ⟨rfl, z, hl⟩ | ⟨m, hj⟩
      · subst z; exact h.elim
      · obtain ⟨v, e1, r1⟩ := g1.dat j d hj
        exact ⟨v, by rw [set_off m]; exact e1, r1⟩
    ol := fun j d hj => by
      rcases set_some hj with ⟨rfl, z, hl⟩ | ⟨m, hj⟩
      · subst z
        obtain ⟨vs, h, r⟩ := h
        exact ⟨a, vs, set_at (by rw [← g.len]; exact hl), h, r, .inr rfl, n0⟩
      · obtain ⟨b, us, e1, r1⟩ := g1.ol j d hj
        exact ⟨b, us, by rw [set_off m]; exact e1, r1⟩
    fz := fun j d hj => by
      rcases set_some hj with ⟨rfl, z, hl⟩ | ⟨m, hj⟩
      · subst z; exact h.elim
      · obtain ⟨b, us, e1, r1⟩ := g1.fz j d hj
        exact ⟨b, us, by rw [set_off m]; exact e1, r1⟩
    od := fun j d hj => by
      rcases set_some hj with ⟨rfl, z, hl⟩ | ⟨m, hj⟩
      · subst z
        exact ⟨a, set_at (by rw [← g.len]; exact hl), h, .inr rfl, n0⟩
      · obtain ⟨b, e1, r1⟩ := g1.od j d hj
        exact ⟨b, by rw [set_off m]; exact e1, r1⟩
    fd := fun j d hj => by
      rcases set_some hj with ⟨rfl, z, hl⟩ | ⟨m, hj⟩
      · subst z; exact h.elim
      · obtain ⟨z, b, o, e1, r1⟩ := g1.fd j d hj
        exact ⟨z, b, o, by rw [set_off m]; exact e1, r1⟩
    inj := fun j k b x1 y1 hj hk w1 w2 sj sk => by
      rcases set_some hj with ⟨rfl, z, hl⟩ | ⟨m, hj⟩
      · rcases set_some hk with ⟨rfl, z2, hl2⟩ | ⟨m2, hk⟩
        · rfl
        · rw [set_at (by rw [← g.len]; exact hl)] at sj
          cases sj
          rw [set_off m2] at sk
          exact absurd sk (ne k y1 hk w2)
      · rw [set_off m] at sj
        rcases set_some hk with ⟨rfl, z2, hl2⟩ | ⟨m2, hk⟩
        · rw [set_at (by rw [← g.len]; exact hl2)] at sk
          cases sk
          exact absurd sj (ne j x1 hj w1)
        · rw [set_off m2] at sk
          exact g1.inj j k b x1 y1 hj hk w1 w2 sj sk }
theorem Good.own {K : Kw} {O : Addr → Prop} {ρ : EnvD} {σ : St} {H H' : Hp} {a : Addr} {vs : List V} {ds : List PyData} (g : Good K G O ρ σ H) (i : Nat) (s : Same H H') (n : H a = none) (h : H' a = some (.lst vs)) (r : Reps K H' (fun b => O b ∨ b = a) vs ds) :
    Good K G (fun b => O b ∨ b = a) (ρ.set i (.ol ds)) (σ.set i (some (.ref a))) H' := g.put i s n ⟨vs, h, r⟩
theorem own_go {i : Nat} {D : Ends} {σ : St} {H : Hp} (h : RS X G W (sOwn i cl) D σ H) : tAsg (RL X W cl) (gName i) D σ H := by
  obtain ⟨ρ, O, g, p⟩ := h
  exact ⟨H, ρ, O, g.e, OutR.lift g p fun ds _ p a vs H' s n h r => p _ H' _ ⟨fun b o hb _ => s b o hb, fun b hb => hb.elim .inl fun z => .inr (z ▸ n), fun b o hb => ⟨o, s b o hb⟩⟩ (g.own i s n h r)⟩
theorem rs_own {i : Nat} {x : Str} {pos' : Pos} (hN : X.N.Nodup) (hi : X.N[i]? = some x) (hx : Loc X.env.scope x) (he : PE X e (RL X W cl)) (hs : swapsWith e (some (.Name x pos')) pos.line X.env = pure false := by rfl) (hf : X.fn x = true ∨ X.env.scope.names.lookup x = some .local := by first | exact .inl rfl | exact .inr rfl | assumption) :
    PS X (.Assign [.Name x pos'] e pos) (RS X G W (sOwn i cl)) := ps_imp (ps_set hN hi hx he hs hf) fun D σ H h => own_go h
/-- a list that no one changes -/
theorem rl_set_go {i : Nat} {D : Ends} {σ : St} {H : Hp} (h : RS X G W (sSet i (dLst cl)) D σ H) : tAsg (RL X W cl) (gName i) D σ H := by
  obtain ⟨ρ, O, g, p⟩ := h
  refine ⟨H, ρ, O, g.e, ?_⟩
  have q : Post X W O σ H (dLst cl ρ) fun d => ∀ v H', Same H H' → Rep X.kw H' O v d → D.nx (σ.set i (some v)) H' := OutR.lift g p fun d _ p v H' s r => p _ H' O (Ext.same s) ((g.to s).set i r)
  exact (Post.map'.mp q).imp fun ds _ q a vs H' s n ha r => q (.ref a) H' s (.lst ⟨ha, fresh_no g.e n⟩ (RepAll.iff.mpr (r.ext (Ext.less fun b z => .inl z))))
theorem rs_tg {t : Tg} (he : PE X e (RE X W ce)) (hg : PG X tg (t.g X.kw)) (hs : swapsWithSole [tg] e pos.line X.env = pure false := by rfl) (hw : swappedStores [tg] e X.env = pure none := by rfl)
    (h1 : (assignEach [tg] X.env).map (·.2) = [assign tg X.env] := by rfl) : PS X (.Assign [tg] e pos) (RS X G W (sTg t ce)) :=
  ps_imp (ps_asg he hg hs hw h1) fun D σ H ⟨ρ, O, g, p⟩ => ⟨H, ρ, O, g.e, OutR.lift g p fun d _ p v H' s r => by
    obtain ⟨ρ', ht, p⟩ := OutR.bind p
    exact Tg.go Good.setOk t (g.to s) r ht fun σ' g' _ => p σ' H' O (Ext.same s) g'⟩
theorem rs_expr (he : PE X e (RE X W ce)) (hs : swapsWith e none pos.line X.env = pure false := by rfl) : PS X (.Expr e pos) (RS X G W (sDrop ce)) :=
  ps_imp (ps_expr he hs) fun D σ H ⟨ρ, O, g, p⟩ => ⟨H, ρ, O, g.e, OutR.lift g p fun d _ p v H' s r => p σ H' O (Ext.same s) (g.to s)⟩
theorem Rep.out {K : Kw} {O : Addr → Prop} {H : Hp} {v d} (h : Rep K H O v d) (s : ∀ a, G.O0 a → O a) : Rep K H G.O0 v d := h.ext (Ext.less s)
theorem rs_ret (he : PE X e (RE X W ce)) : PS X (.Return (some e) pos) (RS X G W (sRet ce)) :=
  ps_imp (ps_ret he) fun D σ H ⟨ρ, O, g, p⟩ => ⟨H, ρ, O, g.e, OutR.lift g p fun d _ p v H' s r => p v H' O (Ext.same s) (g.same.trans s) (r.out g.sub)⟩
/-- a list of one's own is handed back -/
def sRetOwn (i : Nat) : DS := fun ρ => match ρ[i]? with
  | some (.ol ds) => .ok (.rt (.list ds))
  | some (.dat d) => .ok (.rt d)
  | _ => stuck
theorem rs_retOwn (i : Nat) {x : Str} {pos2 : Pos} (hN : X.N[i]? = some x := by rfl) (hv : Vis X.env.scope x := by first | exact Or.inl rfl | exact Or.inr (Or.inl rfl) | exact Or.inr (Or.inr rfl)) (hd : (x == ("__debug__" : Str)) = false := by decide)
    (hcd : (x == ("__classdict__" : Str)) = false := by decide) : PS X (.Return (some (.Name x pos2)) pos) (RS X G W (sRetOwn i)) :=
  ps_imp (ps_ret (pe_var hN hv hd hcd)) fun D σ H ⟨ρ, O, g, p⟩ => by
    unfold sRetOwn at p
    split at p
    · rename_i ds e
      obtain ⟨a, vs, e1, h1, r, o, f⟩ := g.ol i ds e
      refine ⟨_, e1, p _ H O Ext.refl g.same (.lst ⟨h1, fun z => ?_⟩ (RepAll.iff.mpr (r.ext (Ext.less g.sub))))⟩
      obtain ⟨u, q⟩ := G.dom a z
      rw [f] at q; cases q
    · rename_i d e
      obtain ⟨v, e1, r⟩ := g.dat i d e
      exact ⟨v, e1, p v H O Ext.refl g.same (r.out g.sub)⟩
    · exact p.elim
theorem rs_retN : PS X (.Return none pos) (RS X G W sRetN) := ps_imp ps_retN fun D σ H ⟨ρ, O, g, p⟩ => p .non H O Ext.refl g.same .non
theorem rs_break : PS X (.Break pos) (RS X G W sBreak) := ps_imp ps_break fun D σ H ⟨ρ, O, g, p⟩ => p σ H O Ext.refl g
theorem rs_cont : PS X (.Continue pos) (RS X G W sCont) := ps_imp ps_continue fun D σ H ⟨ρ, O, g, p⟩ => p σ H O Ext.refl g
theorem for_go {t : Tg} {D : Ends} {σ : St} {H : Hp} (h : RS X G W (sFor cl t cb) D σ H) : tFor (RI X W cl) (t.g X.kw) (RS X G W cb) D σ H := by
  obtain ⟨ρ, O, g, p⟩ := h
  refine ⟨H, ρ, O, g.e, OutR.lift g p fun ds _ p J P H1 s1 S fm hP => ?_⟩
  refine ⟨fun i m σ' H' => m = ds.length - i ∧ i ≤ ds.length ∧ ∃ ρ' O', Good X.kw G O' ρ' σ' H' ∧ P H' O' ∧ OutR X G W D H' O' (forD t cb (ds.drop i) ρ'), ⟨ds.length, by simp, Nat.zero_le _, ρ, O, g.to s1, hP, OutR.ext (Ext.same s1) (by simpa using p)⟩, ?_⟩
  rintro i m σ2 H2 ⟨rfl, hi, ρ2, O2, g2, p2, q2⟩
  by_cases hlt : i < ds.length
  · refine .inr ⟨S.goes i H2 O2 hlt p2, fun σ' H' => ∃ ρ' O', Good X.kw G O' ρ' σ' H' ∧ P H' O' ∧ OutR X G W D H' O' (forD t cb (ds.drop (i + 1)) ρ'), fun σ' H' p' => ⟨ds.length - (i + 1), by omega, rfl, hlt, p'⟩, fun x H3 hy => ?_⟩
    obtain ⟨d, hd, hdrop⟩ := drop_cons hlt
    obtain ⟨s3, rx⟩ := S.yields i H2 O2 x H3 d hd p2 g2.dom hy
    rw [hdrop, forD] at q2
    obtain ⟨ρ1, ht, q2⟩ := OutR.bind q2
    obtain ⟨o, hb, q2⟩ := OutR.bind q2
    refine Tg.go Good.setOk t (g2.to s3) rx ht fun σ4 g4 _ => ⟨ρ1, O2, g4, ?_⟩
    rw [hb]
    cases o with
    | nx ρ3 => exact fun σ' H' O' e g' => ⟨ρ3, O', g', fm H3 O2 H' O' e (fm H2 O2 H3 O2 (Ext.same s3) p2), OutR.ext ((Ext.same s3).trans e) q2⟩
    | ct ρ3 => exact fun σ' H' O' e g' => ⟨ρ3, O', g', fm H3 O2 H' O' e (fm H2 O2 H3 O2 (Ext.same s3) p2), OutR.ext ((Ext.same s3).trans e) q2⟩
    | bk ρ3 => exact fun σ' H' O' e g' => q2 σ' H' O' ((Ext.same s3).trans e) g'
    | rt d => exact fun v H' O' e s r => q2 v H' O' ((Ext.same s3).trans e) s r
    | xc n pl ρ3 =>
      have q3 : OutP X G W D H3 O2 (.xc n pl ρ3) := OutP.ext (Ext.same s3) q2
      cases pl with
      | none => exact q3
      | some fp => obtain ⟨f, pp⟩ := fp; exact q3
  · have ei : i = ds.length := by omega
    subst ei
    rw [List.drop_length, forD] at q2
    exact .inl ⟨S.stops H2 O2 p2, q2 σ2 H2 O2 Ext.refl g2⟩
theorem rs_for {t : Tg} {body : List Stmt} (hp : PassesOwn (model X.prog X.w) X.A X.env X.xe) (hc : X.calm = true) (hi : PI X tg iter (RI X W cl)) (hg : PG X tg (t.g X.kw)) (hb : PSs X body (RS X G W cb))
    (hs : ∀ x, foldedSetIterable iter X.env x = pure x := by intro _; rfl) : PS X (.For tg iter body [] pos) (RS X G W (sFor cl t cb)) := ps_imp (ps_for hp hc hi hg hb hs) fun D σ H h => for_go h
theorem while_go {fuel : Nat} {D : Ends} {σ : St} {H : Hp} (h : RS X G W (sWhile fuel ct cb) D σ H) : tWhile (RT X W ct) (RS X G W cb) D σ H := by
  obtain ⟨ρ, O, g, p⟩ := h
  refine ⟨fun m σ' H' => ∃ ρ' O', Good X.kw G O' ρ' σ' H' ∧ OutR X G W D H' O' (whileD ct cb m ρ'), ⟨fuel, ρ, O, g, p⟩, ?_⟩
  rintro m σ2 H2 ⟨ρ2, O2, g2, q2⟩
  cases m with
  | zero => exact q2.elim
  | succ m =>
    rw [whileD] at q2
    refine ⟨H2, ρ2, O2, g2.e, OutR.lift g2 q2 fun b _ q H3 s3 => ?_⟩
    cases b with
    | false => exact q σ2 H3 O2 (Ext.same s3) (g2.to s3)
    | true =>
      obtain ⟨o, hb, q⟩ := OutR.bind (show OutR X G W D H2 O2 (cb ρ2 >>= fun o => match o with
        | .nx ρ2 => whileD ct cb m ρ2
        | .ct ρ2 => whileD ct cb m ρ2
        | .bk ρ2 => .ok (.nx ρ2)
        | o => .ok o) from q)
      refine ⟨fun σ' H' => ∃ ρ' O', Good X.kw G O' ρ' σ' H' ∧ OutR X G W D H' O' (whileD ct cb m ρ'), fun σ' H' h => ⟨m, Nat.lt_succ_self m, h⟩, ρ2, O2, g2.to s3, ?_⟩
      rw [hb]
      cases o with
      | nx ρ3 => exact fun σ' H' O' e g' => ⟨ρ3, O', g', OutR.ext ((Ext.same s3).trans e) q⟩
      | ct ρ3 => exact fun σ' H' O' e g' => ⟨ρ3, O', g', OutR.ext ((Ext.same s3).trans e) q⟩
      | bk ρ3 => exact fun σ' H' O' e g' => q σ' H' O' ((Ext.same s3).trans e) g'
      | rt d => exact fun v H' O' e s r => q v H' O' ((Ext.same s3).trans e) s r
      | xc n pl ρ3 =>
        have q3 : OutP X G W D H3 O2 (.xc n pl ρ3) := OutP.ext (Ext.same s3) q
        cases pl with
        | none => exact q3
        | some fp => obtain ⟨f, pp⟩ := fp; exact q3
theorem rs_while {c : Expr} {body : List Stmt} (fuel : Nat) (hp : PassesOwn (model X.prog X.w) X.A X.env X.xe) (hc : PT X c (RT X W ct)) (hb : PSs X body (RS X G W cb)) : PS X (.While c body [] pos) (RS X G W (sWhile fuel ct cb)) := ps_imp (ps_while hp hc hb) fun D σ H h => while_go h
/-- what is one's own changes no more: its object may be known from here on -/
theorem Good.frzAt {K : Kw} {O : Addr → Prop} {ρ : EnvD} {σ : St} {H H' : Hp} (g : Good K G O ρ σ H) {i : Nat} {x : B} {d : PyData} {a : Addr} (e : ρ[i]? = some x) (hx : x.own = true) (e1 : σ[i]? = some (some (.ref a))) (f : G.H0 a = none) (oa : O a)
    (hH : ∀ b, b ≠ a → H' b = H b) (ht : ∃ o, H' a = some o) (hd : Rep K H' (fun b => O b ∧ b ≠ a) (.ref a) d) : Good K G (fun b => O b ∧ b ≠ a) (ρ.set i (.dat d)) σ H' ∧ Ext H O H' (fun b => O b ∧ b ≠ a) := by
  have hl : i < ρ.length := (List.getElem?_eq_some_iff.mp e).1
  have ex : Ext H O H' (fun b => O b ∧ b ≠ a) := ⟨fun b o h n => by rw [hH b fun z => n (z ▸ oa)]; exact h, fun b h => .inl h.1, fun b o h => by
    by_cases z : b = a
    · rw [z]; exact ht
    · exact ⟨o, by rw [hH b z]; exact h⟩⟩
  have apart : ∀ (j : Nat) (y : B) (b : Addr), i ≠ j → ρ[j]? = some y → y.own = true → σ[j]? = some (some (.ref b)) → b ≠ a := fun j y b n hj hy eb z => by
    subst z
    exact n (g.inj i j b x y e hj hx hy e1 eb)
  have n0 : ∀ b o, G.H0 b = some o → b ≠ a := fun b o h z => by rw [z, f] at h; cases h
  refine ⟨?_, ex⟩
  exact
  { len := by rw [List.length_set]; exact g.len
    same := fun b o h => by rw [hH b (n0 b o h)]; exact g.same b o h
    sub := fun b hb => ⟨g.sub b hb, fun z => by
      subst z
      obtain ⟨u, q⟩ := G.dom _ hb
      rw [f] at q; cases q⟩
    dom := fun b hb => by
      obtain ⟨o, q⟩ := g.dom b hb.1
      exact ⟨o, by rw [hH b hb.2]; exact q⟩
    dat := fun j d' hj => by
      rcases set_some hj with ⟨rfl, z, _⟩ | ⟨n, hj⟩
      · cases z
        exact ⟨_, e1, hd⟩
      · obtain ⟨v, ev, rv⟩ := g.dat j d' hj
        exact ⟨v, ev, rv.ext ex⟩
    ol := fun j d' hj => by
      rcases set_some hj with ⟨rfl, z, _⟩ | ⟨n, hj⟩
      · cases z
      · obtain ⟨b, us, eb, hb, rb, ob, fb⟩ := g.ol j d' hj
        have nb := apart j _ b n hj rfl eb
        exact ⟨b, us, eb, by rw [hH b nb]; exact hb, rb.ext ex, ⟨ob, nb⟩, fb⟩
    fz := fun j d' hj => by
      rcases set_some hj with ⟨rfl, z, _⟩ | ⟨n, hj⟩
      · cases z
      · obtain ⟨b, us, eb, hb, rb⟩ := g.fz j d' hj
        exact ⟨b, us, eb, hb, rb.ext ex⟩
    od := fun j d' hj => by
      rcases set_some hj with ⟨rfl, z, _⟩ | ⟨n, hj⟩
      · cases z
      · obtain ⟨b, eb, hb, ob, fb⟩ := g.od j d' hj
        have nb := apart j _ b n hj rfl eb
        exact ⟨b, eb, hb.ext ex fun _ z => by rw [hH b nb]; exact z, ⟨ob, nb⟩, fb⟩
    fd := fun j d' hj => by
      rcases set_some hj with ⟨rfl, z, _⟩ | ⟨n, hj⟩
      · cases z
      · obtain ⟨z, b, o, eb, h0, hb⟩ := g.fd j d' hj
        exact ⟨z, b, o, eb, h0, hb.ext ex fun _ z => by rw [hH b (n0 b o h0)]; exact z⟩
    inj := fun j k b x1 y1 hj hk w1 w2 sj sk => by
      rcases set_some hj with ⟨rfl, z, _⟩ | ⟨n, hj⟩
      · subst z; cases w1
      · rcases set_some hk with ⟨rfl, z, _⟩ | ⟨n2, hk⟩
        · subst z; cases w2
        · exact g.inj j k b x1 y1 hj hk w1 w2 sj sk }
theorem Good.frz {K : Kw} {O : Addr → Prop} {ρ : EnvD} {σ : St} {H : Hp} (g : Good K G O ρ σ H) (i : Nat) : ∃ O', Good K G O' (frzD i ρ) σ H ∧ ∀ a, O' a → O a := by
  unfold frzD
  split
  · rename_i ds e
    obtain ⟨a, vs, e1, h1, r, o, f⟩ := g.ol i ds e
    have less : Ext H O H (fun b => O b ∧ b ≠ a) := Ext.less fun _ h => h.1
    exact ⟨_, (g.frzAt e rfl e1 f o (fun _ _ => rfl) ⟨_, h1⟩ (.lst ⟨h1, fun h => h.2 rfl⟩ (RepAll.iff.mpr (r.ext less)))).1, fun _ h => h.1⟩
  · exact ⟨O, g, fun _ h => h⟩
theorem rs_frz (i : Nat) (h : PS X st (RS X G W ca)) : PS X st (RS X G W (sFrz i ca)) := ps_imp h fun D σ H ⟨ρ, O, g, p⟩ => by
  obtain ⟨O', g', le⟩ := g.frz i
  exact ⟨frzD i ρ, O', g', OutR.ext (Ext.less le) p⟩
/-- a dict of one's own changes no more from this statement on -/
def sFrzD (i : Nat) (b : DS) : DS := fun ρ => match ρ[i]? with
  | some (.od kvs) => b (ρ.set i (.dat (.dict kvs)))
  | _ => b ρ
theorem rs_frzD (i : Nat) (h : PS X st (RS X G W ca)) : PS X st (RS X G W (sFrzD i ca)) := ⟨fun pins s σ H D I ⟨ρ, O, g, p⟩ => by
  unfold sFrzD at p
  split at p
  · rename_i kvs e
    obtain ⟨a, e1, h1, o, f⟩ := g.od i kvs e
    have go : ∀ (u : HO) (ob : Obj), s.heap.get? a = some ob → H a = some u → Mut (some u) → (∀ ob, ObjOk X.prog X.w H s.heap a u → ObjOk X.prog X.w (upd H a ob) s.heap a u) → (∀ H' O', Ext H O H' O' → (∃ ob, H' a = some (.frz ob u)) → ¬ O' a → Rep X.kw H' O' (.ref a) (.dict kvs)) → wpAny (model X.prog X.w) X.A (exec st X.env) (SP X pins D) X.xe s := fun u ob hob hu mu hok hrep => by
      have I' : Inv X pins σ (upd H a (.frz ob u)) s := L2.d_write (h' := s.heap) (t' := s.toks) I (by rw [hu]; exact mu) ⟨rfl, fun _ _ => rfl⟩ ⟨ob, hob⟩ ⟨hob, hok _ (I.hok a u hu)⟩
      have hx : Ext H O (upd H a (.frz ob u)) (fun b => O b ∧ b ≠ a) := ⟨fun b w hb n => by rw [upd_ne (show b ≠ a from fun z => n (by rw [z]; exact o))]; exact hb, fun b h => .inl h.1, fun b w hb => by
        by_cases z : b = a
        · exact ⟨_, by rw [z]; exact upd_same⟩
        · exact ⟨w, by rw [upd_ne z]; exact hb⟩⟩
      obtain ⟨g', ex⟩ := g.frzAt (H' := upd H a (.frz ob u)) e rfl e1 f o (fun b z => upd_ne z) ⟨_, upd_same⟩ (hrep _ _ hx ⟨ob, upd_same⟩ fun z => z.2 rfl)
      exact h.run pins s σ _ D I' ⟨_, _, g', OutR.ext ex p⟩
    cases h1 with
    | @k _ _ es _ hz r =>
      obtain ⟨_, _, vs, _, ob, _, _, hob, _⟩ := (show ObjOk X.prog X.w H s.heap a (.dK es) from I.hok a _ hz)
      exact go (.dK es) ob hob hz True.intro (fun _ x => x) fun H' O' hx hq n => .dct (.k hq (r.ext hx)) n
    | @t _ _ xs _ hz r =>
      obtain ⟨_, ⟨ob, hob⟩, _⟩ := (show ObjOk X.prog X.w H s.heap a (DTO X.w a xs) from I.hok a _ hz)
      exact go _ ob hob hz True.intro (fun _ x => x) fun H' O' hx hq n => .dct (.t hq (r.ext hx)) n
  · exact h.run pins s σ H D I ⟨ρ, O, g, p⟩⟩
/-- raise C('..') -/
theorem rs_raise {pe : Expr} {n : String} {C : Addr} (hc : X.calm = true) (tk : Takes X W) (he : PMk X pe (fun _ H Q => Q (.ref C) none H)) (hm : X.mg n = some (.ref C)) : PS X (.Raise (some pe) none pos) (RS X G W (sRaise n)) :=
  ps_imp (ps_raise hc tk he) fun D σ H ⟨ρ, O, g, p⟩ => by
    obtain ⟨C', hm', p⟩ := p
    rw [hm] at hm'
    cases hm'
    exact p σ H O Ext.refl g
end

/-! ### defs -/
/-- a def's promise: what its function says -/
def XwK (K : Kw) (mg : Str → Option Value) (E : XK) (O : Addr → Prop) (H : Hp) : Err → Prop
  | .stuck => False
  | .exc n none => ∃ C, mg n = some (.ref C) ∧ ∀ H', Same H H' → E (.ref C) none H'
  | .exc n (some (f, p)) => ∃ C, mg n = some (.ref C) ∧ ∀ H' dd v, Same H H' → H' dd = some (.xd [((f : Str), v)]) → Rep K H' O v p → E (.ref C) (some dd) H'
/-- how an argument is handed over: to be kept, or to be read alone -/
def ArgR (K : Kw) (H : Hp) (O : Addr → Prop) (b : Bool) (v : V) (d : PyData) : Prop := if b then RepB K H O v d else Rep K H O v d
inductive ArgsR (K : Kw) (H : Hp) (O : Addr → Prop) : List Bool → List V → List PyData → Prop
  | nil : ArgsR K H O [] [] []
  | cons {m ms v vs d ds} : ArgR K H O m v d → ArgsR K H O ms vs ds → ArgsR K H O (m :: ms) (v :: vs) (d :: ds)
theorem ArgsR.len {K H O} : ∀ {ms vs ds}, ArgsR K H O ms vs ds → vs.length = ms.length ∧ ds.length = ms.length
  | _, _, _, .nil => ⟨rfl, rfl⟩
  | _, _, _, .cons _ h => ⟨by simp [h.len.1], by simp [h.len.2]⟩
theorem ArgsR.of {K H O} : ∀ {vs ds}, Reps K H O vs ds → ArgsR K H O (List.replicate ds.length false) vs ds
  | _, _, .nil => .nil
  | _, _, .cons a b => .cons a (ArgsR.of b)
def spD (K : Kw) (mg : Str → Option Value) (ms : List Bool) (f : List PyData → Rs PyData) : Sp := fun vs H Q E => ∃ O ds, OkO O H ∧ ArgsR K H O ms vs ds ∧ match f ds with
  | .ok d => ∀ v H', Same H H' → Rep K H' O v d → Q v H'
  | .error e => XwK K mg E O H e
def outD : Rs Out → Rs PyData
  | .ok (.nx _) => .ok .none
  | .ok (.rt d) => .ok d
  | .ok (.xc n p _) => .error (.exc n p)
  | _ => stuck
/-- the slots at the entry -/
def fzB : PyData → B
  | .list l => .fz l
  | .dict kvs => .fd kvs
  | d => .dat d
def argsB : List Bool → List PyData → EnvD
  | m :: ms, d :: ds => (if m then fzB d else .dat d) :: argsB ms ds
  | _, _ => []
def fnD (ms : List Bool) (n : Nat) (body : DS) : List PyData → Rs PyData := fun ds => if ds.length = ms.length then outD (body (argsB ms ds ++ List.replicate (n - ms.length) .un)) else stuck
section
variable {K : Kw} {H : Hp} {O : Addr → Prop}
theorem argsB_len : ∀ {ms ds}, ds.length = ms.length → (argsB ms ds).length = ms.length
  | [], [], _ => rfl
  | m :: ms, d :: ds, h => by
    show (argsB ms ds).length + 1 = ms.length + 1
    rw [argsB_len (by simpa using h)]
theorem argsB_at : ∀ {ms : List Bool} {vs : List V} {ds : List PyData}, ArgsR K H O ms vs ds → ∀ (i : Nat) (b : B), (argsB ms ds)[i]? = some b → ∃ v, vs[i]? = some v ∧
    ((∃ d, b = .dat d ∧ Rep K H O v d) ∨ (∃ ds a xs, b = .fz ds ∧ v = .ref a ∧ SqL K.1 H a xs ∧ Reps K H O xs ds) ∨ ∃ kvs z a, b = .fd kvs ∧ v = .ref a ∧ DAt K H O z a kvs)
  | _, _, _, .nil, i, b, h => by simp [argsB] at h
  | _, _, _, .cons (m := m) (d := d) (v := v) ha hr, 0, b, h => by
    refine ⟨v, rfl, ?_⟩
    have h : (if m then fzB d else .dat d) = b := Option.some.inj h
    cases m with
    | false =>
      rw [if_neg Bool.false_ne_true] at h
      have ha : Rep K H O v d := ha
      exact .inl ⟨d, h.symm, ha⟩
    | true =>
      rw [if_pos rfl] at h
      have ha : RepB K H O v d := ha
      cases d with
      | list l =>
        obtain ⟨a, xs, e, hq, r⟩ := ha.lst
        exact .inr (.inl ⟨l, a, xs, h.symm, e, hq, r⟩)
      | dict kvs =>
        obtain ⟨z, a, e, hq⟩ := ha.dct
        exact .inr (.inr ⟨kvs, z, a, h.symm, e, hq⟩)
      | _ =>
        rcases ha with ha | ⟨_, _, _, _, e, _⟩ | ⟨_, _, _, _, e, _⟩
        · exact .inl ⟨_, h.symm, ha⟩
        · cases e
        · cases e
  | _, _, _, .cons ha hr, i + 1, b, h => by
    obtain ⟨v, e, q⟩ := argsB_at hr i b h
    exact ⟨v, e, q⟩
/-- the frame at a def's entry -/
theorem Good.start {N : List Str} {ms : List Bool} {vs : List V} {ds : List PyData} (ok : OkO O H) (ha : ArgsR K H O ms vs ds) (hn : ms.length ≤ N.length) :
    Good K ⟨H, O, ok⟩ O (argsB ms ds ++ List.replicate (N.length - ms.length) .un) (L2.start N vs) H := by
  obtain ⟨l1, l2⟩ := ha.len
  have la : (argsB ms ds).length = ms.length := argsB_len l2
  have key : ∀ (i : Nat) (b : B), b ≠ .un → (argsB ms ds ++ List.replicate (N.length - ms.length) B.un)[i]? = some b → (argsB ms ds)[i]? = some b := fun i b hb h => by
    rw [List.getElem?_append] at h
    split at h
    · exact h
    · rw [List.getElem?_replicate] at h
      split at h
      · cases h; exact absurd rfl hb
      · cases h
  have sat : ∀ (i : Nat) (v : V), vs[i]? = some v → (L2.start N vs)[i]? = some (some v) := fun i v h => by
    unfold L2.start
    have hl : i < vs.length := (List.getElem?_eq_some_iff.mp h).1
    rw [List.getElem?_append_left (by simpa using hl), List.getElem?_map, h]
    rfl
  exact
  { len := by
      unfold L2.start
      simp only [List.length_append, List.length_replicate, List.length_map, la, l1]
    same := Same.refl H
    sub := fun _ h => h
    dom := ok
    dat := fun i d h => by
      obtain ⟨v, e, q⟩ := argsB_at ha i _ (key i _ (fun z => by cases z) h)
      rcases q with ⟨d', e2, r⟩ | ⟨_, _, _, e2, _⟩ | ⟨_, _, _, e2, _⟩
      · cases e2
        exact ⟨v, sat i v e, r⟩
      · cases e2
      · cases e2
    ol := fun i d h => by
      obtain ⟨v, e, q⟩ := argsB_at ha i _ (key i _ (fun z => by cases z) h)
      rcases q with ⟨d', e2, r⟩ | ⟨_, _, _, e2, _⟩ | ⟨_, _, _, e2, _⟩ <;> cases e2
    fz := fun i d h => by
      obtain ⟨v, e, q⟩ := argsB_at ha i _ (key i _ (fun z => by cases z) h)
      rcases q with ⟨d', e2, r⟩ | ⟨_, a, xs, e2, e3, hq, r⟩ | ⟨_, _, _, e2, _⟩
      · cases e2
      · cases e2
        exact ⟨a, xs, by rw [sat i v e, e3], hq, r⟩
      · cases e2
    od := fun i d h => by
      obtain ⟨v, e, q⟩ := argsB_at ha i _ (key i _ (fun z => by cases z) h)
      rcases q with ⟨d', e2, r⟩ | ⟨_, _, _, e2, _⟩ | ⟨_, _, _, e2, _⟩ <;> cases e2
    fd := fun i d h => by
      obtain ⟨v, e, q⟩ := argsB_at ha i _ (key i _ (fun z => by cases z) h)
      rcases q with ⟨d', e2, r⟩ | ⟨_, _, _, e2, _⟩ | ⟨_, z, a, e2, e3, hq⟩
      · cases e2
      · cases e2
      · cases e2
        obtain ⟨o, y⟩ := hq.there
        exact ⟨z, a, o, by rw [sat i v e, e3], y, hq⟩
    inj := fun i j a x y h _ w1 => by
      have nu : x ≠ .un := fun z => by subst z; cases w1
      obtain ⟨v, e, q⟩ := argsB_at ha i _ (key i _ nu h)
      rcases q with ⟨d', e2, r⟩ | ⟨_, _, _, e2, _⟩ | ⟨_, _, _, e2, _⟩ <;> (subst e2; cases w1) }
end
section
variable {P : Program} {w : World} {K : PySem.W.Frag} {mg : Str → Option Value} {base : Heap}
/-- what leaves the def as an error -/
abbrev WF (E : XK) : WX := fun cls d _ H => E cls d H
/-- THE RULE for a def: its body keeps its denotation -/
theorem fn_ok {x qual : Str} {st : Stmt} {f : Addr} {fd : FuncData} {N ps : List Str} {k : Nat} {ms : List Bool} {body : DS} (F : Fun K x qual st f fd) (S : FnScope N ps (defScope st)) (hl : ms.length = ps.length) (hn : ms.length ≤ N.length)
    (hbody : ∀ (cdv : Value) (A : Around) (outer : List Env) (s : Shared) (H : Hp) (E : XK) (G : Gd), Room k (A.deeper (envOfC qual (defScope st) s.heap.objs.size f cdv)) →
      PSs (cxOf (L2.CX P w) P w K mg base N qual (defScope st) f cdv A outer s H E) (defBody st) (RS (cxOf (L2.CX P w) P w K mg base N qual (defScope st) f cdv A outer s H E) G (WF E) body)) :
    FnOk P w K mg base (L2.CX P w) (k + 1) f fd ps (spD (K, w) mg ms (fnD ms N.length body)) := by
  refine F.okX S (fun vs H Q E h => ?_) (fun cdv A outer s H vs Q E hr h => ?_)
  · obtain ⟨O, ds, _, ha, _⟩ := h
    rw [ha.len.1, hl]
  · obtain ⟨O, ds, ok, ha, h⟩ := h
    refine ⟨_, hbody cdv A outer s H E ⟨H, O, ok⟩ hr, _, O, Good.start ok ha hn, ?_⟩
    unfold fnD at h
    rw [if_pos ha.len.2] at h
    revert h
    cases body (argsB ms ds ++ List.replicate (N.length - ms.length) B.un) with
    | error e => exact fun h => h.elim
    | ok o =>
      cases o with
      | nx ρ => exact fun h σ' H' O' e g => h .non H' g.same .non
      | rt d => exact fun h v H' O' e s r => h v H' s r
      | bk ρ => exact fun h => h.elim
      | ct ρ => exact fun h => h.elim
      | xc n p ρ =>
        cases p with
        | none => exact fun ⟨C, hm, h⟩ => ⟨C, hm, fun σ' H' O' e g => h H' g.same⟩
        | some fp =>
          obtain ⟨fl, p⟩ := fp
          exact fun ⟨C, hm, h⟩ => ⟨C, hm, fun σ' H' O' dd v e g hd r => h H' dd v g.same hd (r.ext (Ext.less g.sub))⟩
end

/-! ### calls of defs -/
section
variable {X : Cx} {W : WX} {e : Expr} {es : List Expr} {pos : Pos} {cs : DL}
/-- the arguments, each in its manner -/
def RAM (X : Cx) (W : WX) (ms : List Bool) (c : DL) : TA := fun σ H Q => ∃ Hb ρ O, GoodE X.kw Hb O ρ σ H ∧ Post X W O σ H (c ρ) fun ds => ∀ vs H', Same H H' → ArgsR X.kw H' O ms vs ds → Q vs H'
theorem ram_nil : PA X [] (RAM X W [] dNil) := pa_imp pa_nil fun σ H Q ⟨Hb, ρ, O, g, p⟩ => p [] H (Same.refl H) .nil
theorem ArgsR.to {K H H' O} (s : Same H H') : ∀ {ms vs ds}, ArgsR K H O ms vs ds → ArgsR K H' O ms vs ds
  | _, _, _, .nil => .nil
  | _, _, _, .cons (m := m) a b => .cons (by
      cases m with
      | true => exact RepB.same s a
      | false => exact Rep.ext (Ext.same s) a) (b.to s)
theorem RAM.go {Hb ρ O σ H Q} {ms : List Bool} (g : GoodE X.kw Hb O ρ σ H) {c : DL} {α : Type} {k : List PyData → Rs α} {P : α → Prop} (p : Post X W O σ H (c ρ >>= k) P)
    (q : ∀ d v H', GoodE X.kw Hb O ρ σ H' → Same H H' → ArgsR X.kw H' O ms v d → Post X W O σ H' (k d) P → Q v H') : RAM X W ms c σ H Q :=
  ⟨Hb, ρ, O, g, p.bind.imp fun d _ p v H' s r => q d v H' (g.to s) s r (p.to s fun _ z => z)⟩
theorem ram_cons {ms : List Bool} {ca : DE} (ha : PE X e (RE X W ca)) (hr : PA X es (RAM X W ms cs)) (hs : starEach (e :: es) X.env = (false, eval e X.env) :: starEach es X.env := by rfl) : PA X (e :: es) (RAM X W (false :: ms) (dCons ca cs)) :=
  pa_imp (pa_cons ha hr hs) fun σ H Q ⟨Hb, ρ, O, g, p⟩ => RE.go' g p fun d v H1 g1 s1 r1 p1 => RAM.go g1 p1 fun ds vs H2 g2 s2 r2 p2 => p2 _ H2 (s1.trans s2) (.cons (show Rep X.kw H2 O v d from r1.ext (Ext.same s2)) r2)
theorem ram_consB {ms : List Bool} {ca : DE} (ha : PE X e (RB X W ca)) (hr : PA X es (RAM X W ms cs)) (hs : starEach (e :: es) X.env = (false, eval e X.env) :: starEach es X.env := by rfl) : PA X (e :: es) (RAM X W (true :: ms) (dCons ca cs)) :=
  pa_imp (pa_cons ha hr hs) fun σ H Q ⟨Hb, ρ, O, g, p⟩ => RB.go g p fun d v H1 g1 s1 r1 p1 => RAM.go g1 p1 fun ds vs H2 g2 s2 r2 p2 => p2 _ H2 (s1.trans s2) (.cons (show RepB X.kw H2 O v d from r1.same s2) r2)
theorem XwK.of {O : Addr → Prop} {σ : St} {H H0 : Hp} {e : Err} (s : Same H0 H) (h : XW X W O σ H0 e) : XwK X.kw X.mg (fun cls d H => W cls d σ H) O H e := by
  match e, h with
  | .exc n none, ⟨C, hm, h⟩ => exact ⟨C, hm, fun H2 s2 => h H2 (s.trans s2)⟩
  | .exc n (some (f, p)), ⟨C, hm, h⟩ => exact ⟨C, hm, fun H2 dd v s2 => h H2 dd v (s.trans s2)⟩
theorem call_go {ms : List Bool} {f : List PyData → Rs PyData} {σ H Q} (h : RE X W (dCall f cs) σ H Q) : tCallS (spD X.kw X.mg ms f) (WE W) (RAM X W ms cs) σ H Q := by
  obtain ⟨Hb, ρ, O, g, p⟩ := h
  refine ⟨Hb, ρ, O, g, Post.imp (Post.bind p) fun ds _ p vs H1 s1 r1 => ⟨O, ds, (g.to s1).dom, r1, ?_⟩⟩
  cases hf : f ds with
  | ok d =>
    rw [hf] at p
    exact fun v H' s r => p v H' (s1.trans s) r
  | error er =>
    rw [hf] at p
    exact XwK.of s1 p
theorem re_call {k : Nat} {fa : Addr} {fd : FuncData} {ps : List Str} {ms : List Bool} {f : List PyData → Rs PyData} {x : Str} {p : Pos} (F : FnOk X.prog X.w X.K X.mg X.base (L2.CX X.prog X.w) k fa fd ps (spD X.kw X.mg ms f)) (hr : Room k X.A) (hg : Gl X x) (hm : X.mg x = some (.ref fa)) (hk : PySem.W.keepIn X.K (.ref fa) = true) (hb : Binds X.K fd ps []) (tk : Takes X W)
    (ha : PA X (e :: es) (RAM X W ms cs)) (hdb : (x == ("__debug__" : Str)) = false := by decide) (he : starEach (e :: es) X.env = (false, eval e X.env) :: starEach es X.env := by rfl) (hpl : (backTo pos (starEach es X.env)).any (·.1) = false := by rfl) :
    PE X (.Call (.Name x p) (e :: es) [] pos) (RE X W (dCall f cs)) := pe_imp (pe_callS F hr hg hm hk hb (fun σ => passAt tk σ) ha hdb he hpl) fun σ H Q h => call_go h
theorem re_call0 {k : Nat} {fa : Addr} {fd : FuncData} {ps : List Str} {f : List PyData → Rs PyData} {x : Str} {p : Pos} (F : FnOk X.prog X.w X.K X.mg X.base (L2.CX X.prog X.w) k fa fd ps (spD X.kw X.mg [] f)) (hr : Room k X.A) (hg : Gl X x) (hm : X.mg x = some (.ref fa)) (hk : PySem.W.keepIn X.K (.ref fa) = true) (hb : Binds X.K fd ps []) (tk : Takes X W)
    (hdb : (x == ("__debug__" : Str)) = false := by decide) : PE X (.Call (.Name x p) [] [] pos) (RE X W (dCall f dNil)) := by
  have h0 : PE X (.Call (.Name x p) [] [] pos) (tCallS (spD X.kw X.mg [] f) (WE W) tNil) := by
    refine ⟨fun pins s σ H Q I h => ?_⟩
    refine wpAny_Call_Name_kw (ld_glob I hg hm ?_ hdb)
    exact PySem.W.callWith_K0 I.kIn hk (run_fnS (us := []) F hr hb (passAt tk σ) I .nil h)
  refine pe_imp h0 fun σ H Q h => ?_
  obtain ⟨Hb, ρ, O, g, p⟩ := h
  refine ⟨O, [], g.dom, .nil, ?_⟩
  have p : Post X W O σ H (f []) fun d => ∀ v H', Same H H' → Rep X.kw H' O v d → Q v H' := p
  cases hf : f [] with
  | ok d => rw [hf] at p; exact p
  | error er => rw [hf] at p; exact XwK.of (Same.refl H) p
end
end Den

set_option Elab.async false
set_option linter.all false
set_option maxRecDepth 100000
set_option maxHeartbeats 4000000
namespace Den
open PySem PySem.Spec PyProof.Rows L2

/-! ### items, slices -/
theorem pr_atI {α β : Type} {F : α → β → Prop} {xs : List α} {ys : List β} {i : Int} {y : β} (h : Paired F xs ys) (e : atI ys i = some y) : ∃ x, atI xs i = some x ∧ F x y := by
  unfold atI at e ⊢
  rw [h.length]
  cases q : ixN ys.length i with
  | none => rw [q] at e; cases e
  | some j =>
    rw [q] at e
    exact pr_get h e
def cutD {α : Type} (xs : List α) (lo hi : Option Int) : List α := (xs.drop (HT.sIx xs.length 0 lo)).take (HT.sIx xs.length xs.length hi - HT.sIx xs.length 0 lo)
theorem pr_cut {F : V → PyData → Prop} {xs : List V} {ds : List PyData} (h : Paired F xs ds) (lo hi : Option Int) : Paired F (cutV xs lo hi) (cutD ds lo hi) := by
  unfold cutV cutD
  rw [h.length]
  exact pr_take _ (pr_drop _ h)
def ixD : PyData → PyData → Rs PyData
  | .list xs, .int i => match atI xs i with | some x => .ok x | none => stuck
  | .tuple xs, .int i => match atI xs i with | some x => .ok x | none => stuck
  | .str z, .int i => if okLen z.length then (match atI z.cps.toList i with | some c => .ok (.str ⟨#[c]⟩) | none => stuck) else stuck
  | _, _ => stuck
def slD : PyData → Option Int → Option Int → Rs PyData
  | .list xs, lo, hi => .ok (.list (cutD xs lo hi))
  | .tuple xs, lo, hi => .ok (.tuple (cutD xs lo hi))
  | .str z, lo, hi => if okLen z.length then .ok (.str (cutS z lo hi)) else stuck
  | _, _, _ => stuck
def SlB (X : Cx) (g : PyData → Option Int → Option Int → Rs PyData) : Prop :=
  SlR X fun x lo hi H Q => ∃ O d, OkO O H ∧ RepB X.kw H O x d ∧ Give X.kw H O (g d lo hi) Q
section
variable {X : Cx}
theorem cut_whole {α : Type} (xs : List α) (lo hi : Option Int) (h : HT.sIx xs.length 0 lo = 0 ∧ HT.sIx xs.length xs.length hi = xs.length) : cutD xs lo hi = xs := by
  unfold cutD
  rw [h.1, h.2, List.drop_zero, Nat.sub_zero, List.take_length]
theorem ix_seqB : IxB X ixD := by
  refine ixr_imp ix_seq fun x y H Q ⟨O, d, e, ok, rx, ry, q⟩ => ?_
  unfold ixD at q
  split at q
  · obtain ⟨a, xs, rfl, h, r⟩ := rx.lst
    obtain rfl := ry.int
    split at q
    · rename_i d e
      obtain ⟨v, e1, r1⟩ := pr_atI r e
      exact .inl ⟨a, xs, _, v, rfl, rfl, h, e1, give_rep q r1⟩
    · exact q.elim
  · obtain ⟨a, xs, rfl, h, r⟩ := rx.tup
    obtain rfl := ry.int
    split at q
    · rename_i d e
      obtain ⟨v, e1, r1⟩ := pr_atI r e
      exact .inr (.inl ⟨a, xs, _, v, rfl, rfl, h, e1, give_rep q r1⟩)
    · exact q.elim
  · obtain rfl := rx.str
    obtain rfl := ry.int
    split at q
    · rename_i hl
      split at q
      · rename_i c e
        exact .inr (.inr ⟨_, _, c, rfl, rfl, of_decide_eq_true hl, e, give_str q⟩)
      · exact q.elim
    · exact q.elim
  · exact q.elim
theorem sl_seqB : SlB X slD := by
  refine slr_imp (sl_list.or (sl_tupA.or sl_str)) fun x lo hi H Q ⟨O, d, ok, rx, q⟩ => ?_
  unfold slD at q
  split at q
  · obtain ⟨a, xs, rfl, h, r⟩ := rx.lst
    exact .inl ⟨a, xs, rfl, h, give_lst q ok (pr_cut r _ _)⟩
  · have rx0 := rx.tupR
    obtain ⟨a, xs, rfl, h, r⟩ := rx.tup
    refine .inr (.inl ⟨a, xs, rfl, h, fun w => ?_, fun _ => give_tup q ok (pr_cut r _ _)⟩)
    rw [r.length] at w
    rw [cut_whole _ _ _ w] at q
    exact give_rep q rx0
  · split at q
    · rename_i hl
      obtain rfl := rx.str
      exact .inr (.inr ⟨_, rfl, of_decide_eq_true hl, give_str q⟩)
    · exact q.elim
  · exact q.elim
end
abbrev DO := EnvD → Rs (Option Int)
def oNone : DO := fun _ => .ok none
def oSome (a : DE) : DO := fun ρ => a ρ >>= fun d => match d with
  | .int i => .ok (some i)
  | _ => stuck
def dSl (f : PyData → Option Int → Option Int → Rs PyData) (a : DE) (lo hi : DO) : DE := fun ρ => a ρ >>= fun x => lo ρ >>= fun l => hi ρ >>= fun u => f x l u
section
variable {X : Cx} {W : WX} {a b e : Expr} {lo hi : Option Expr} {pos : Pos} {ca cb : DE} {cl ch : DO}
def RO (X : Cx) (W : WX) (c : DO) : TO := fun σ H Q => ∃ Hb ρ O, GoodE X.kw Hb O ρ σ H ∧ Post X W O σ H (c ρ) fun o => ∀ H', Same H H' → Q o H'
theorem ro_none : PO X none (RO X W oNone) := ⟨fun pins s σ H Q I ⟨Hb, ρ, O, g, p⟩ => po_none.run pins s σ H Q I (p H (Same.refl H))⟩
theorem ro_some (h : PE X e (RE X W ca)) : PO X (some e) (RO X W (oSome ca)) := ⟨fun pins s σ H Q I ⟨Hb, ρ, O, g, p⟩ => (po_some h).run pins s σ H Q I (RE.go' g p fun d v H1 g1 s1 r1 p1 => by
  cases r1 with
  | int i => exact ⟨i, rfl, p1 H1 s1⟩
  | _ => exact False.elim p1)⟩
theorem RO.go {Hb ρ O σ H Q} (g : GoodE X.kw Hb O ρ σ H) {c : DO} {α : Type} {k : Option Int → Rs α} {P : α → Prop} (p : Post X W O σ H (c ρ >>= k) P)
    (q : ∀ o H', GoodE X.kw Hb O ρ σ H' → Same H H' → Post X W O σ H' (k o) P → Q o H') : RO X W c σ H Q :=
  ⟨Hb, ρ, O, g, p.bind.imp fun d _ p H' s => q d H' (g.to s) s (p.to s fun _ z => z)⟩
theorem re_ix {f : PyData → PyData → Rs PyData} (hr : IxB X f) (hq : ∀ x y, Quiet (f x y)) (ha : PE X a (RB X W ca)) (hb : PE X b (RB X W cb)) (hs : PlainIx b) : PE X (.Subscript a b pos) (RE X W (dOp2 f ca cb)) :=
  pe_imp (pe_ix hr ha hb hs) fun σ H Q ⟨Hb, ρ, O, g, p⟩ => RB.go g p fun d v H1 g1 s1 r1 p1 => RB.go g1 p1 fun e u H2 g2 s2 r2 p2 => ⟨O, d, e, g2.dom, r1.same s2, r2, Post.give (hq d e) (s1.trans s2) p2⟩
theorem re_sl {p2 : Pos} {f : PyData → Option Int → Option Int → Rs PyData} (hr : SlB X f) (hq : ∀ x l u, Quiet (f x l u)) (ha : PE X a (RB X W ca)) (hl : PO X lo (RO X W cl)) (hu : PO X hi (RO X W ch)) : PE X (.Subscript a (.Slice lo hi none p2) pos) (RE X W (dSl f ca cl ch)) :=
  pe_imp (pe_slice hr ha hl hu) fun σ H Q ⟨Hb, ρ, O, g, p⟩ => RB.go g p fun d v H1 g1 s1 r1 p1 => RO.go g1 p1 fun l H2 g2 s2 p2 => RO.go g2 p2 fun u H3 g3 s3 p3 =>
    ⟨O, d, g3.dom, r1.same (s2.trans s3), Post.give (hq d l u) (s1.trans (s2.trans s3)) p3⟩
end
theorem ixD_quiet : ∀ x y, Quiet (ixD x y) := fun x y n p e => by
  unfold ixD at e
  split at e <;> (try split at e) <;> (try split at e) <;> cases e
theorem slD_quiet : ∀ x l u, Quiet (slD x l u) := fun x l u n p e => by
  unfold slD at e
  split at e <;> (try split at e) <;> cases e
end Den

set_option Elab.async false
set_option linter.all false
set_option maxRecDepth 100000
set_option maxHeartbeats 4000000
namespace Den
open PySem PySem.Spec PyProof.Rows L2

/-! ### t[::k] -/
def stepAt (n : Nat) (k : Int) : Int × Nat := ((Builtin.Slice.sliceAdjust none none k (n : Int)).1, Builtin.Slice.slicePlaces (Builtin.Slice.sliceAdjust none none k (n : Int)).1 (Builtin.Slice.sliceAdjust none none k (n : Int)).2 k)
def stepIx (n : Nat) (k : Int) : List Nat := (List.range (stepAt n k).2).map fun (m : Nat) => ((stepAt n k).1 + (m : Int) * k).toNat
def stepL {α : Type} (xs : List α) (k : Int) : List α := (stepIx xs.length k).filterMap (xs[·]?)
theorem pr_pick {α β : Type} {F : α → β → Prop} {xs : List α} {ys : List β} (h : Paired F xs ys) : ∀ is : List Nat, Paired F (is.filterMap (xs[·]?)) (is.filterMap (ys[·]?))
  | [] => .nil
  | i :: is => by
    rw [List.filterMap_cons, List.filterMap_cons]
    cases e : ys[i]? with
    | some y =>
      obtain ⟨x, e1, f⟩ := pr_get h e
      rw [e1]
      exact .cons f (pr_pick h is)
    | none =>
      have : xs[i]? = none := by
        rw [List.getElem?_eq_none_iff] at e ⊢
        rw [h.length]; exact e
      rw [this]
      exact pr_pick h is
theorem pr_step {F : V → PyData → Prop} {xs : List V} {ds : List PyData} (h : Paired F xs ds) (k : Int) : Paired F (stepL xs k) (stepL ds k) := by
  unfold stepL
  rw [h.length]
  exact pr_pick h _
theorem stepL_rev {α : Type} (xs : List α) : stepL xs (-1) = xs.reverse := by
  have e1 : stepAt xs.length (-1) = ((xs.length : Int) - 1, xs.length) := by
    unfold stepAt Builtin.Slice.sliceAdjust Builtin.Slice.slicePlaces
    simp only [show ((-1 : Int) < 0) = True by decide, show ((-1 : Int) > 0) = False by decide, if_true, if_false]
    refine Prod.ext rfl ?_
    show ((if (xs.length : Int) - 1 > -1 then ((xs.length : Int) - 1 - -1 - 1) / - -1 + 1 else 0) : Int).toNat = xs.length
    rw [show (- -1 : Int) = 1 by decide, Int.ediv_one]
    split <;> omega
  unfold stepL stepIx
  rw [e1]
  dsimp only
  have e2 : (List.range xs.length).map (fun (m : Nat) => ((xs.length : Int) - 1 + (m : Int) * -1).toNat) = (List.range xs.length).reverse := by
    rw [← PySem.W.krv_range]
    refine List.map_congr_left fun m hm => ?_
    have := List.mem_range.mp hm
    omega
  rw [e2, List.filterMap_reverse]
  congr 1
  have := PySem.W.krv_all xs.toArray
  simpa using this
section
variable {prog : Program} {w : World} {A : Around} {E : Value → Shared → Prop} {s : Shared}
theorem sliceApplied_step {sl : Addr} {vl vu vs : Value} {k : Int} {n : Nat} {Q : Int × Int × Nat → Shared → Prop} (hs : s.heap.IsSliceOf sl vl vu vs) (pl : IsPart vl none) (pu : IsPart vu none) (ps : IsPart vs (some k)) (h0 : k ≠ 0)
    (h : Q ((stepAt n k).1, k, (stepAt n k).2) s) : wpAny (model prog w) A (Builtin.Slice.sliceApplied (.ref sl) (pure (n : Int))) Q E s := by
  obtain ⟨os, hos, hcs, hds⟩ := id hs
  unfold Builtin.Slice.sliceApplied Builtin.Slice.sliceFields
  refine wpAny_bind (wpAny_bind (wpAny_field hos hds (x := vl) rfl (wpAny_bind (wpAny_field hos hds (x := vu) rfl (wpAny_bind (wpAny_field hos hds (x := vs) rfl (wpAny_pure ?_)))))))
  refine wpAny_bind (HT.slicePart_ ps ?_)
  show wpAny _ _ (if (k == 0) = true then _ else _) _ _ s
  rw [if_neg (by simpa using h0)]
  refine wpAny_bind (HT.slicePart_ pl (wpAny_bind (HT.slicePart_ pu (wpAny_bind (wpAny_pure ?_)))))
  show wpAny _ _ (match Builtin.Slice.sliceAdjust none none k (n : Int) with | (lo, hi) => pure (lo, k, Builtin.Slice.slicePlaces lo hi k)) _ _ s
  exact wpAny_pure h
theorem filterMap_len {α β : Type} (f : α → Option β) : ∀ l : List α, (l.filterMap f).length ≤ l.length := fun l => List.length_filterMap_le f l
theorem stepAt_le (n : Nat) (k : Int) (h0 : k ≠ 0) : (stepAt n k).2 ≤ n := by
  unfold stepAt Builtin.Slice.sliceAdjust Builtin.Slice.slicePlaces
  dsimp only
  by_cases hk : k < 0
  · have hk2 : ¬ k > 0 := by omega
    simp only [hk, hk2, if_true, if_false]
    split
    · have : ((n : Int) - 1 - -1 - 1) / (-k) ≤ (n : Int) - 1 - -1 - 1 := Int.ediv_le_self _ (by omega)
      omega
    · simp
  · have hk2 : k > 0 := by omega
    simp only [hk, hk2, if_true, if_false]
    split
    · have : ((n : Int) - 0 - 1) / k ≤ (n : Int) - 0 - 1 := Int.ediv_le_self _ (by omega)
      omega
    · simp
theorem stepL_len {α : Type} (xs : List α) (k : Int) (h0 : k ≠ 0) : (stepL xs k).length ≤ xs.length := by
  unfold stepL
  refine Nat.le_trans (List.length_filterMap_le _ _) ?_
  unfold stepIx
  rw [List.length_map, List.length_range]
  exact stepAt_le _ k h0
theorem pick_step (xs : Array Value) (i k : Int) (n : Nat) : ((List.range n).filterMap fun (m : Nat) => xs[(i + (m : Int) * k).toNat]?) = ((List.range n).map fun (m : Nat) => (i + (m : Int) * k).toNat).filterMap (xs.toList[·]?) := by
  rw [List.filterMap_map]
  congr 1
  funext m
  simp
theorem getItem_tuple_step {t sl : Addr} {items : Array Value} {vl vu vs : Value} {k : Int} {Q : Value → Shared → Prop} (ht : IsTup s.heap t items) (hs : s.heap.IsSliceOf sl vl vu vs) (pl : IsPart vl none) (pu : IsPart vu none) (ps : IsPart vs (some k)) (h0 : k ≠ 0) (h1 : k ≠ 1)
    (h : Q (.ref s.heap.objs.size) { s with heap := s.heap.push { cls := .type "tuple", data := .seq (stepL items.toList k).toArray } })
    (hsz : items.size ≤ sizeLine) : wpAny (model prog w) A (getItem (.ref t) (.ref sl)) Q E s := by
  have htake : sizeOk (.seq (stepL items.toList k).toArray) := by
    show (stepL items.toList k).toArray.size ≤ sizeLine
    rw [List.size_toArray]
    exact Nat.le_trans (stepL_len _ k h0) (by simpa using hsz)
  obtain ⟨os, hos, hcs, hds⟩ := id hs
  have hTs : s.TypeIs (.ref sl) "slice" := ⟨os, hos, hcs⟩
  unfold getItem
  try with_reducible refine wpAny_holding ?_
  first | refine wpAny_bind (wpAny_pure ?_) | skip
  refine wpAny_bind (wpAny_sequenceKey ht.typeIs (by decide) ?_)
  refine wpAny_bind (wpAny_callSpecial?_slot (name := Str.ofString "__getitem__") ht.typeIs PyProof.Rows.slot_tuple_getitem
    (wpAny_call_entry PyProof.Rows.slot_tuple_getitem ht.typeIs entry_tuple_getitem ?_ (args_tuple_getitem _ _)))
  show wpAny _ _ (Builtin.Tuple.tupleItemsOf (.ref t) >>= _) _ _ s
  refine wpAny_bind (tupleItemsOf_ ht ?_)
  refine wpAny_bind (wpAny_typeOf hTs ?_)
  rw [if_pos (by decide)]
  refine wpAny_bind (sliceApplied_step hs pl pu ps h0 ?_)
  have hno : ¬ (((stepAt items.size k).1 == 0 && k == 1 && (stepAt items.size k).2 == items.size) = true) := by
    intro q
    rw [Bool.and_eq_true, Bool.and_eq_true] at q
    exact h1 (eq_of_beq q.1.2)
  show wpAny _ _ (if ((stepAt items.size k).1 == 0 && k == 1 && (stepAt items.size k).2 == items.size) = true then _ else _) _ _ s
  rw [if_neg hno, pick_step]
  have e : ((List.range (stepAt items.size k).2).map fun (m : Nat) => ((stepAt items.size k).1 + (m : Int) * k).toNat).filterMap (items.toList[·]?) = stepL items.toList k := by
    unfold stepL stepIx
    rw [Array.length_toList]
  rw [e]
  first
    | exact wpAny_bind (m := Builtin.Tuple.tupleExact _) (wpAny_newObj_type (wpAny_pure ⟨_, rfl, wpAny_pure h⟩) htake)
    | exact wpAny_bind (m := Builtin.Tuple.tupleExact _) (wpAny_newObj_type (wpAny_bind (wpAny_pure (wpAny_pure ⟨_, rfl, wpAny_pure h⟩))) htake)
    | exact wpAny_bind (wpAny_bind (m := Builtin.Tuple.tupleExact _) (wpAny_newObj_type (wpAny_pure (wpAny_pure ⟨_, rfl, wpAny_pure h⟩)) htake))
    | exact wpAny_bind (wpAny_bind (m := Builtin.Tuple.tupleExact _) (wpAny_newObj_type (wpAny_pure ⟨_, rfl, wpAny_pure h⟩) htake))
end
/-- what x[::k] of a value is -/
def StR (X : Cx) (r : V → Int → Hp → VK → Prop) : Prop :=
  ∀ (pins : List (Addr × Obj)) (s : Shared) (σ : St) (H : Hp) (x : V) (v vl vu vs : Value) (k : Int) (sl : Addr) (Q : VK), Inv X pins σ H s → RelV x v → s.heap.IsSliceOf sl vl vu vs → IsPart vl none → IsPart vu none → IsPart vs (some k) → r x k H Q →
    ∃ T id, typeLookup (.type T) "__getitem__" = pure (some (.builtin id)) ∧ s.TypeIs v T ∧ wpAny (model X.prog X.w) X.A (getItem v (.ref sl)) (EP X pins σ Q) X.xe s
theorem StR.or {X : Cx} {r r' : V → Int → Hp → VK → Prop} (h : StR X r) (h' : StR X r') : StR X (fun x k H Q => r x k H Q ∨ r' x k H Q) := by
  intro pins s σ H x v vl vu vs k sl Q I rx hs pl pu ps q
  rcases q with q | q
  · exact h pins s σ H x v vl vu vs k sl Q I rx hs pl pu ps q
  · exact h' pins s σ H x v vl vu vs k sl Q I rx hs pl pu ps q
section
variable {X : Cx}
theorem st_tup : StR X fun x k H Q => ∃ a xs, x = .ref a ∧ k ≠ 0 ∧ k ≠ 1 ∧ SqT X.K H a xs ∧ ∀ p, H p = none → Q (.ref p) (upd H p (.tup (stepL xs k))) := by
  rintro pins s σ H x v vl vu vs k sl Q I rx hs pl pu ps ⟨a, xs, rfl, h0, h1, hx, q⟩
  cases rx
  obtain ⟨its, r, ht, hz⟩ := I.tuple hx
  have hlen := r.length
  refine ⟨"tuple", _, PyProof.Rows.slot_tuple_getitem.lookup, ht.typeIs, getItem_tuple_step ht hs pl pu ps h0 h1 ?_ (by rw [List.size_toArray, ← hlen]; exact hz)⟩
  refine ⟨.ref s.heap.objs.size, _, I.laid (t' := s.toks) (o := .tup (stepL xs k)) (fun b ob q => Heap.get?_push_of_some _ q) (Nat.le_refl _) ?_, rfl, q _ (I.hok.fresh (Nat.le_refl _))⟩
  refine ⟨Nat.le_trans (stepL_len xs k h0) hz, stepL its k, ?_, ⟨_, Heap.get?_push_size _ rfl, rfl, _, rfl⟩⟩
  unfold stepL
  rw [hlen]
  exact pr_pick r _
theorem st_lst : StR X fun x k H Q => ∃ a xs, x = .ref a ∧ k = -1 ∧ SqL X.K H a xs ∧ ∀ p, H p = none → Q (.ref p) (upd H p (.lst xs.reverse)) := by
  rintro pins s σ H x v vl vu vs k sl Q I rx hs pl pu ps ⟨a, xs, rfl, rfl, hx, q⟩
  cases rx
  obtain ⟨its, r, ht, hz⟩ := I.list hx
  have hlen := r.length
  refine ⟨"list", _, slot_list_getitem.lookup, ht.isList.typeIs, ?_⟩
  refine wpAny_getItem_list_slice ht.isList hs pl pu ps (by decide) ?_ (by rw [List.size_toArray]; omega)
  rw [PySem.W.krv_pick]
  refine ⟨.ref _, _, I.laid (t' := s.toks) (o := .lst xs.reverse) (fun b ob q => Heap.get?_push_of_some _ q) (Nat.le_refl _) ?_, rfl, q _ (I.hok.fresh (Nat.le_refl _))⟩
  exact ⟨by rw [List.length_reverse]; exact hz, _, 0, r.reverse, Heap.get?_push_size _ rfl⟩
theorem pe_step {r : V → Int → Hp → VK → Prop} {e se : Expr} {te : TE} {ts : TO} {p3 pos : Pos} (hr : StR X r) (he : PE X e te) (hs : PO X (some se) ts) (hop : ∀ v k, ∃ ops, subscripted (.Slice none none (some se) p3) false v k = operate ops (getItem v k) := by intro v k; first | exact ⟨[v, k], by with_unfolding_all rfl⟩ | exact ⟨[k, v], by with_unfolding_all rfl⟩) :
    PE X (.Subscript e (.Slice none none (some se) p3) pos) (fun σ H Q => te σ H fun x H1 => ts σ H1 fun o H2 => ∃ k, o = some k ∧ r x k H2 Q) := by
  refine ⟨fun pins s σ H Q I h => ?_⟩
  refine Subscript_ (thn (he.run pins s σ H _ I h) fun v s1 ⟨x, H1, I1, r1, q1⟩ => ?_)
  refine wpAny_Slice (thn (po_none.run pins s1 σ H1 (fun o H2 => o = none ∧ H2 = H1) I1 ⟨rfl, rfl⟩) fun vl s2 ⟨l, H2, I2, pl, el, e2⟩ => ?_)
  subst el e2
  refine thn (po_none.run pins s2 σ H2 (fun o H3 => o = none ∧ H3 = H2) I2 ⟨rfl, rfl⟩) fun vu s3 ⟨u, H3, I3, pu, eu, e3⟩ => ?_
  subst eu e3
  refine thn (hs.run pins s3 σ H3 _ I3 q1) fun vs s4 ⟨o, H4, I4, ps, k, eo, q4⟩ => ?_
  subst eo
  have I5 : Inv X pins σ H4 { s4 with heap := s4.heap.push { cls := .type "slice", data := .fields #[vl, vu, vs] } } := I4.kept (t' := s4.toks) fun b ob q => Heap.get?_push_of_some _ q
  obtain ⟨T, id, hT, ht, hg⟩ := hr pins { s4 with heap := s4.heap.push { cls := .type "slice", data := .fields #[vl, vu, vs] } } σ H4 x v vl vu vs k s4.heap.objs.size Q I5 r1 (Heap.IsSliceOf.new ..) pl pu ps q4
  show wpAny (model X.prog X.w) X.A (subscriptTail e (.Slice none none (some se) p3) v (.ref s4.heap.objs.size)) (EP X pins σ Q) X.xe { s4 with heap := s4.heap.push { cls := .type "slice", data := .fields #[vl, vu, vs] } }
  obtain ⟨ops, hop⟩ := hop v (.ref s4.heap.objs.size)
  exact tail_any (ops := ops) ht hT hg hop
end
def stD : PyData → Int → Rs PyData
  | .tuple xs, k => if k ≠ 0 ∧ k ≠ 1 then .ok (.tuple (stepL xs k)) else stuck
  | .list xs, k => if k = -1 then .ok (.list xs.reverse) else stuck
  | _, _ => stuck
theorem stD_quiet : ∀ x k, Quiet (stD x k) := fun x k n p e => by
  unfold stD at e
  split at e <;> (try split at e) <;> cases e
def StB (X : Cx) (g : PyData → Int → Rs PyData) : Prop := StR X fun x k H Q => ∃ O d, OkO O H ∧ RepB X.kw H O x d ∧ Give X.kw H O (g d k) Q
theorem str_imp {X : Cx} {r r' : V → Int → Hp → VK → Prop} (h : StR X r) (i : ∀ x k H Q, r' x k H Q → r x k H Q) : StR X r' := fun pins s σ H x v vl vu vs k sl Q I rx hs pl pu ps q => h pins s σ H x v vl vu vs k sl Q I rx hs pl pu ps (i _ _ _ _ q)
def dSt (f : PyData → Int → Rs PyData) (a : DE) (s : DO) : DE := fun ρ => a ρ >>= fun x => s ρ >>= fun o => match o with
  | some k => f x k
  | none => stuck
section
variable {X : Cx} {W : WX} {a se : Expr} {p3 pos : Pos} {ca : DE} {cs : DO}
theorem st_seqB : StB X stD := by
  refine str_imp (st_tup.or st_lst) fun x k H Q ⟨O, d, ok, rx, q⟩ => ?_
  unfold stD at q
  split at q
  · split at q
    · rename_i h
      obtain ⟨a, xs, rfl, hx, r⟩ := rx.tup
      exact .inl ⟨a, xs, rfl, h.1, h.2, hx, give_tup q ok (pr_step r _)⟩
    · exact q.elim
  · split at q
    · rename_i h
      obtain ⟨a, xs, rfl, hx, r⟩ := rx.lst
      exact .inr ⟨a, xs, rfl, h, hx, give_lst q ok (pr_rev r)⟩
    · exact q.elim
  · exact q.elim
theorem re_st {f : PyData → Int → Rs PyData} (hr : StB X f) (hq : ∀ x k, Quiet (f x k)) (ha : PE X a (RB X W ca)) (hs : PO X (some se) (RO X W cs)) (hop : ∀ v k, ∃ ops, subscripted (.Slice none none (some se) p3) false v k = operate ops (getItem v k) := by intro v k; first | exact ⟨[v, k], by with_unfolding_all rfl⟩ | exact ⟨[k, v], by with_unfolding_all rfl⟩) : PE X (.Subscript a (.Slice none none (some se) p3) pos) (RE X W (dSt f ca cs)) :=
  pe_imp (pe_step hr ha hs hop) fun σ H Q ⟨Hb, ρ, O, g, p⟩ => RB.go g p fun d v H1 g1 s1 r1 p1 => RO.go g1 p1 fun o H2 g2 s2 p2 => by
    cases o with
    | none => exact p2.elim
    | some k => exact ⟨k, rfl, O, d, g2.dom, r1.same s2, Post.give (hq d k) (s1.trans s2) p2⟩
end
end Den

/-
example {X : Cx} {W : WX} {p p2 p3 p4 p5 : Pos} {k} : PE X (.Subscript (.Constant (.int 3) k p) (.Slice none none (some (.UnaryOp .USub (.Constant (.int 1) k p2) p3)) p4) p5) (RE X W (dSt stD (dLit (.int 3)) (oSome (dOp1 negD (dLit (.int 1)))))) :=
  re_st st_seqB stD_quiet (re_b re_int) (ro_some (re_un un_negD sorry re_int))
-/

set_option Elab.async false
set_option linter.all false
set_option maxRecDepth 100000
set_option maxHeartbeats 4000000
namespace Den
open PySem PySem.Spec PyProof.Rows L2

/-! ### never an own error -/
theorem ok_quiet {α : Type} {a : α} : Quiet (.ok a : Rs α) := fun n p e => by cases e
theorem stuck_quiet {α : Type} : Quiet (stuck : Rs α) := fun n p e => by cases e
theorem ite_quiet {α : Type} {c : Prop} [Decidable c] {a b : Rs α} (ha : Quiet a) (hb : Quiet b) : Quiet (if c then a else b) := by split <;> assumption
theorem addD_quiet : ∀ x y, Quiet (addD x y) := fun x y => by unfold addD; split <;> first | exact ok_quiet | exact stuck_quiet | exact ite_quiet ok_quiet stuck_quiet
theorem subD_quiet : ∀ x y, Quiet (subD x y) := fun x y => by unfold subD; split <;> first | exact ok_quiet | exact stuck_quiet | exact ite_quiet ok_quiet stuck_quiet
theorem mulD_quiet : ∀ x y, Quiet (mulD x y) := fun x y => by unfold mulD; split <;> first | exact ok_quiet | exact stuck_quiet | exact ite_quiet ok_quiet stuck_quiet
theorem fdivD_quiet : ∀ x y, Quiet (fdivD x y) := fun x y => by unfold fdivD; split <;> first | exact ok_quiet | exact stuck_quiet | exact ite_quiet ok_quiet stuck_quiet
theorem modD_quiet : ∀ x y, Quiet (modD x y) := fun x y => by unfold modD; split <;> first | exact ok_quiet | exact stuck_quiet | exact ite_quiet ok_quiet stuck_quiet
theorem powD_quiet : ∀ x y, Quiet (powD x y) := fun x y => by unfold powD; split <;> first | exact ok_quiet | exact stuck_quiet | exact ite_quiet ok_quiet stuck_quiet
theorem negD_quiet : ∀ x, Quiet (negD x) := fun x => by unfold negD; split <;> first | exact ok_quiet | exact stuck_quiet | exact ite_quiet ok_quiet stuck_quiet
theorem eqD_quiet : ∀ x y, Quiet (eqD x y) := fun x y => by unfold eqD; exact ite_quiet ok_quiet stuck_quiet
theorem neD_quiet : ∀ x y, Quiet (neD x y) := fun x y => by unfold neD; exact ite_quiet ok_quiet stuck_quiet
theorem ltD_quiet : ∀ x y, Quiet (ltD x y) := fun x y => by unfold ltD; split <;> first | exact ok_quiet | exact stuck_quiet | exact ite_quiet ok_quiet stuck_quiet
theorem leD_quiet : ∀ x y, Quiet (leD x y) := fun x y => by unfold leD; split <;> first | exact ok_quiet | exact stuck_quiet | exact ite_quiet ok_quiet stuck_quiet
theorem gtD_quiet : ∀ x y, Quiet (gtD x y) := fun x y => by unfold gtD; split <;> first | exact ok_quiet | exact stuck_quiet | exact ite_quiet ok_quiet stuck_quiet
theorem geD_quiet : ∀ x y, Quiet (geD x y) := fun x y => by unfold geD; split <;> first | exact ok_quiet | exact stuck_quiet | exact ite_quiet ok_quiet stuck_quiet
theorem inD_quiet : ∀ x y, Quiet (inD x y) := fun x y => by unfold inD; split <;> first | exact ok_quiet | exact stuck_quiet | exact ite_quiet ok_quiet stuck_quiet
theorem notInD_quiet : ∀ x y, Quiet (notInD x y) := fun x y => by
  unfold notInD
  cases h : inD x y with
  | error e =>
    cases e with
    | stuck => exact stuck_quiet
    | exc n p => exact absurd h (inD_quiet x y n p)
  | ok d => cases d <;> first | exact ok_quiet | exact stuck_quiet
theorem isD_quiet : ∀ x y, Quiet (isD x y) := fun x y => by unfold isD; split <;> first | exact ok_quiet | exact stuck_quiet | exact ite_quiet ok_quiet stuck_quiet
theorem isNotD_quiet : ∀ x y, Quiet (isNotD x y) := fun x y => by unfold isNotD; split <;> first | exact ok_quiet | exact stuck_quiet | exact ite_quiet ok_quiet stuck_quiet
theorem lenD_quiet : ∀ x, Quiet (lenD x) := fun x => by unfold lenD; split <;> first | exact ok_quiet | exact stuck_quiet | exact ite_quiet ok_quiet stuck_quiet
theorem absD_quiet : ∀ x, Quiet (absD x) := fun x => by unfold absD; split <;> first | exact ok_quiet | exact stuck_quiet | exact ite_quiet ok_quiet stuck_quiet
theorem intD_quiet : ∀ x, Quiet (intD x) := fun x => by unfold intD; split <;> first | exact ok_quiet | exact stuck_quiet | exact ite_quiet ok_quiet stuck_quiet
theorem sumD_quiet : ∀ x, Quiet (sumD x) := fun x => by unfold sumD; (repeat' split) <;> first | exact ok_quiet | exact stuck_quiet
theorem allD_quiet : ∀ x, Quiet (allD x) := fun x => by unfold allD; (repeat' split) <;> first | exact ok_quiet | exact stuck_quiet
theorem anyD_quiet : ∀ x, Quiet (anyD x) := fun x => by unfold anyD; (repeat' split) <;> first | exact ok_quiet | exact stuck_quiet
theorem tupleD_quiet : ∀ x, Quiet (tupleD x) := fun x => by unfold tupleD; split <;> first | exact ok_quiet | exact stuck_quiet
theorem listD_quiet : ∀ x, Quiet (listD x) := fun x => by unfold listD; split <;> first | exact ok_quiet | exact stuck_quiet

/-! ### products -/
section
variable {X : Cx}
theorem op_mulD : OpD X (binaryOp .Mult) mulD := by
  refine opr_imp (op_mulW.or (op_rep.or op_repT)) fun x y H Q ⟨O, d, e, ok, rx, ry, q⟩ => ?_
  cases rx with
  | int i =>
    cases ry with
    | int j =>
      simp only [mulD] at q
      split at q
      · rename_i h
        exact .inl ⟨i, j, rfl, rfl, h, give_int q⟩
      · exact q.elim
    | _ => exact q.elim
  | @lst a xs ds hx rx =>
    cases ry with
    | int k =>
      simp only [mulD] at q
      split at q
      · rename_i h
        have r1 := RepAll.iff.mp rx
        refine .inr (.inl ⟨a, k, xs, rfl, rfl, hx.1, h.1, h.2.1, by rw [r1.length]; exact h.2.2, give_lst q ok (pr_rep r1 _)⟩)
      · exact q.elim
    | _ => exact q.elim
  | @tup a xs ds hx rx =>
    cases ry with
    | int k =>
      simp only [mulD] at q
      split at q
      · rename_i h
        have r1 := RepAll.iff.mp rx
        exact .inr (.inr ⟨a, k, xs, rfl, rfl, hx.sqt, fun z => h.1 ((pr_nil_iff r1).mp z), h.2.1, h.2.2.1, by rw [r1.length]; exact h.2.2.2, give_tup q ok (pr_rep r1 _)⟩)
      · exact q.elim
    | _ => exact q.elim
  | _ => exact q.elim
end

/-! ### the least, the greatest, sorted: alike data -/
def alikeB (ds : List PyData) : Bool := ds.all fun a => ds.all fun b => PySem.W.alike a b
theorem alikeB_iff {ds : List PyData} (h : alikeB ds = true) : PySem.W.AllAlike ds := fun a ha b hb => by
  unfold alikeB at h
  rw [List.all_eq_true] at h
  have := h a ha
  rw [List.all_eq_true] at this
  exact this b hb
def noNoneB (ds : List PyData) : Bool := ds.all fun a => !noneD a
def sortB (ds : List PyData) : Bool := (ds.all fun a => match a with | .tuple (_ :: _) => true | _ => false) || ds.all fun a => match a with | .none => false | .tuple _ => false | _ => true
theorem sortB_iff {ds : List PyData} (h : sortB ds = true) : PySem.W.Sortable ds := by
  unfold sortB at h
  rw [Bool.or_eq_true, List.all_eq_true, List.all_eq_true] at h
  rcases h with h | h
  · refine .inl fun d hd => ?_
    have := h d hd
    split at this
    · exact ⟨_, _, rfl⟩
    · cases this
  · refine .inr fun d hd => ?_
    have := h d hd
    split at this
    · cases this
    · cases this
    · rename_i h1 h2
      exact ⟨fun e => h1 e, fun xs e => h2 xs e⟩
def minmaxOk (ds : List PyData) : Bool := alikeB ds && noNoneB ds && decide (PyData.depthAll ds ≤ 64)
def minD : List PyData → Rs PyData
  | [.list (x :: xs)] => if minmaxOk (x :: xs) then .ok (PySem.W.minD x xs) else stuck
  | [.tuple (x :: xs)] => if minmaxOk (x :: xs) then .ok (PySem.W.minD x xs) else stuck
  | [.int i, .int j] => .ok (.int (min2 i j))
  | _ => stuck
def maxD : List PyData → Rs PyData
  | [.list (x :: xs)] => if minmaxOk (x :: xs) then .ok (PySem.W.maxD x xs) else stuck
  | [.tuple (x :: xs)] => if minmaxOk (x :: xs) then .ok (PySem.W.maxD x xs) else stuck
  | [.int i, .int j] => .ok (.int (max2 i j))
  | [.int i, .int j, .int k] => .ok (.int (max2 (max2 i j) k))
  | _ => stuck
def sortedL : List PyData → Rs (List PyData)
  | [.list ds] => if alikeB ds && sortB ds && ds.all (fun d => decide (d.depth ≤ 64)) then .ok (ds.mergeSort (PySem.W.dataLe false id)) else stuck
  | _ => stuck
theorem minD_quiet : ∀ x, Quiet (minD x) := fun x => by unfold minD; split <;> first | exact ok_quiet | exact stuck_quiet | exact ite_quiet ok_quiet stuck_quiet
theorem maxD_quiet : ∀ x, Quiet (maxD x) := fun x => by unfold maxD; split <;> first | exact ok_quiet | exact stuck_quiet | exact ite_quiet ok_quiet stuck_quiet
theorem sortedL_quiet : ∀ x, Quiet (sortedL x) := fun x => by unfold sortedL; split <;> first | exact ok_quiet | exact stuck_quiet | exact ite_quiet ok_quiet stuck_quiet
theorem minmaxOk_iff {ds : List PyData} (h : minmaxOk ds = true) : PySem.W.AlikeAll ds ∧ PyData.depthAll ds ≤ 64 := by
  unfold minmaxOk noNoneB at h
  rw [Bool.and_eq_true, Bool.and_eq_true, List.all_eq_true] at h
  exact ⟨⟨alikeB_iff h.1.1, fun x hx e => by
    have := h.1.2 x hx
    rw [e] at this
    exact absurd this (by decide)⟩, of_decide_eq_true h.2⟩
mutual
theorem alike_plain : ∀ d : PyData, PySem.W.alike d d = true → d.plain = true
  | .none, _ => rfl
  | .bool _, _ => rfl
  | .int _, _ => rfl
  | .str _, _ => rfl
  | .list xs, h => by
    rw [PySem.W.alike] at h
    simpa only [PyData.plain] using alikes_plain xs h
  | .tuple xs, h => by
    rw [PySem.W.alike] at h
    simpa only [PyData.plain] using alikes_plain xs h
  | .dict _, h => by simp [PySem.W.alike] at h
theorem alikes_plain : ∀ ds : List PyData, PySem.W.alikeAll ds ds = true → PyData.plainAll ds = true
  | [], _ => rfl
  | d :: ds, h => by
    rw [PySem.W.alikeAll, Bool.and_eq_true] at h
    rw [PyData.plainAll, alike_plain d h.1, alikes_plain ds h.2]; rfl
end
theorem all_plain : ∀ {ds : List PyData}, (∀ d ∈ ds, d.plain = true) → PyData.plainAll ds = true
  | [], _ => rfl
  | d :: ds, h => by rw [PyData.plainAll, h d (by simp), all_plain fun e he => h e (by simp [he])]; rfl
theorem alike_plains {ds : List PyData} (h : PySem.W.AllAlike ds) : PyData.plainAll ds = true := all_plain fun d hd => alike_plain d (h d hd d hd)
theorem foldl_mem (f : PyData → PyData → PyData) (hf : ∀ a b, f a b = a ∨ f a b = b) : ∀ (xs : List PyData) (x : PyData), xs.foldl f x ∈ x :: xs
  | [], x => by simp
  | y :: ys, x => by
    rw [List.foldl_cons]
    rcases List.mem_cons.mp (foldl_mem f hf ys (f x y)) with e | e
    · rw [e]
      rcases hf x y with e2 | e2 <;> rw [e2] <;> simp
    · exact List.mem_cons_of_mem _ (List.mem_cons_of_mem _ e)
theorem minD_mem (x : PyData) (xs : List PyData) : PySem.W.minD x xs ∈ x :: xs := foldl_mem _ (fun a b => by show (if _ then b else a) = a ∨ (if _ then b else a) = b; split <;> simp) xs x
theorem maxD_mem (x : PyData) (xs : List PyData) : PySem.W.maxD x xs ∈ x :: xs := foldl_mem _ (fun a b => by show (if _ then b else a) = a ∨ (if _ then b else a) = b; split <;> simp) xs x
section
variable {X : Cx}
theorem pick_rep {pins : List (Addr × Obj)} {σ : St} {H : Hp} {s : Shared} {h' : Heap} {O : Addr → Prop} {xs : List V} {ds : List PyData} {its : List Value} {i : Nat} {v : Value} {d : PyData} {bs : List Addr} (I : Inv X pins σ H s) (r : Reps X.kw H O xs ds) (rv : Vals xs its)
    (hal : PySem.W.AllAlike ds) (hd : d ∈ ds) (hi : its[i]? = some v) (hr : Reads h' v d bs) (hk : ∀ b o, s.heap.get? b = some o → h'.get? b = some o) : ∃ x, RelV x v ∧ Rep X.kw H O x d := by
  obtain ⟨x, hx, rx⟩ := pr_get rv hi
  obtain ⟨e, he, re⟩ := pr_getL r hx
  obtain ⟨as, ra⟩ := Dp.reads I e x v (re.dp (alike_plain e (hal e (List.mem_of_getElem? he) e (List.mem_of_getElem? he)))) rx
  have : e = d := PySem.W.alike_unique e d v as bs (hal e (List.mem_of_getElem? he) d hd) (PySem.W.reads_keeps hk ra) hr
  exact ⟨x, rx, this ▸ re⟩
theorem call_minB (hc : X.calm = true) (hu : X.A.units + 65 < cLine) : CallB X (.builtin "min") minD := by
  intro pins s σ H vs us Q I rv ⟨O, ds, ok, r, q⟩
  unfold minD at q
  split at q
  · rename_i x xs
    split at q
    · rename_i h
      obtain ⟨ha, hd⟩ := minmaxOk_iff h
      obtain ⟨v, rfl, r1⟩ := reps1 r
      obtain ⟨a, ys, rfl, hs, r2⟩ := r1.lst
      obtain ⟨its, rits, hl, hz⟩ := I.list hs
      rw [Vals.ref1 rv]
      obtain ⟨as, ra⟩ := Dp.readsAll I _ _ _ (RepAll.dp (RepAll.iff.mpr r2) (alike_plains ha.1)) rits
      refine PySem.W.min_list_data (x := x) (xs := xs) (I.ok.hd hc) hl.isList (by simpa using ra) ha (by omega) fun i v h' tk bs hi hr hk => ?_
      obtain ⟨z, rz, pz⟩ := pick_rep I r2 rits ha.1 (minD_mem x xs) (by simpa using hi) hr hk
      exact ⟨z, H, I.kept hk, rz, q z H (Same.refl H) pz⟩
    · exact q.elim
  · rename_i x xs
    split at q
    · rename_i h
      obtain ⟨ha, hd⟩ := minmaxOk_iff h
      obtain ⟨v, rfl, r1⟩ := reps1 r
      obtain ⟨a, ys, rfl, hs, r2⟩ := r1.tup
      obtain ⟨its, rits, hl, hz⟩ := I.tuple hs
      rw [Vals.ref1 rv]
      obtain ⟨as, ra⟩ := Dp.readsAll I _ _ _ (RepAll.dp (RepAll.iff.mpr r2) (alike_plains ha.1)) rits
      refine PySem.W.min_tuple_data (x := x) (xs := xs) (I.ok.hd hc) hl (by simpa using ra) ha (by omega) fun i v h' tk bs hi hr hk => ?_
      obtain ⟨z, rz, pz⟩ := pick_rep I r2 rits ha.1 (minD_mem x xs) (by simpa using hi) hr hk
      exact ⟨z, H, I.kept hk, rz, q z H (Same.refl H) pz⟩
    · exact q.elim
  · obtain ⟨v, w, rfl, r1, r2⟩ := reps2 r
    obtain rfl := r1.int
    obtain rfl := r2.int
    exact call_min2 hc pins s σ H _ us Q I rv ⟨_, _, rfl, give_int q⟩
  · exact q.elim
theorem call_maxB (hc : X.calm = true) (hu : X.A.units + 65 < cLine) : CallB X (.builtin "max") maxD := by
  intro pins s σ H vs us Q I rv ⟨O, ds, ok, r, q⟩
  unfold maxD at q
  split at q
  · rename_i x xs
    split at q
    · rename_i h
      obtain ⟨ha, hd⟩ := minmaxOk_iff h
      obtain ⟨v, rfl, r1⟩ := reps1 r
      obtain ⟨a, ys, rfl, hs, r2⟩ := r1.lst
      obtain ⟨its, rits, hl, hz⟩ := I.list hs
      rw [Vals.ref1 rv]
      obtain ⟨as, ra⟩ := Dp.readsAll I _ _ _ (RepAll.dp (RepAll.iff.mpr r2) (alike_plains ha.1)) rits
      refine PySem.W.max_list_data (x := x) (xs := xs) (I.ok.hd hc) hl.isList (by simpa using ra) ha (by omega) fun i v h' tk bs hi hr hk => ?_
      obtain ⟨z, rz, pz⟩ := pick_rep I r2 rits ha.1 (maxD_mem x xs) (by simpa using hi) hr hk
      exact ⟨z, H, I.kept hk, rz, q z H (Same.refl H) pz⟩
    · exact q.elim
  · rename_i x xs
    split at q
    · rename_i h
      obtain ⟨ha, hd⟩ := minmaxOk_iff h
      obtain ⟨v, rfl, r1⟩ := reps1 r
      obtain ⟨a, ys, rfl, hs, r2⟩ := r1.tup
      obtain ⟨its, rits, hl, hz⟩ := I.tuple hs
      rw [Vals.ref1 rv]
      obtain ⟨as, ra⟩ := Dp.readsAll I _ _ _ (RepAll.dp (RepAll.iff.mpr r2) (alike_plains ha.1)) rits
      refine PySem.W.max_tuple_data (x := x) (xs := xs) (I.ok.hd hc) hl (by simpa using ra) ha (by omega) fun i v h' tk bs hi hr hk => ?_
      obtain ⟨z, rz, pz⟩ := pick_rep I r2 rits ha.1 (maxD_mem x xs) (by simpa using hi) hr hk
      exact ⟨z, H, I.kept hk, rz, q z H (Same.refl H) pz⟩
    · exact q.elim
  · obtain ⟨v, w, rfl, r1, r2⟩ := reps2 r
    obtain rfl := r1.int
    obtain rfl := r2.int
    exact call_max2 hc pins s σ H _ us Q I rv ⟨_, _, rfl, give_int q⟩
  · cases r with
    | cons a r =>
      cases r with
      | cons b r =>
        cases r with
        | cons c r =>
          cases r
          obtain rfl := a.int
          obtain rfl := b.int
          obtain rfl := c.int
          cases rv with
          | cons ra rv =>
            cases rv with
            | cons rb rv =>
              cases rv with
              | cons rc rv =>
                cases rv
                obtain ⟨t, rfl⟩ := ra
                obtain ⟨u, rfl⟩ := rb
                obtain ⟨x, rfl⟩ := rc
                refine max_three_ints (I.ok.hd hc) fun h' tk hk => ?_
                have q := give_int q
                refine ⟨_, H, I.kept hk, ?_, q⟩
                unfold max2
                split <;> split <;> simp_all <;> exact ⟨_, rfl⟩
  · exact q.elim
theorem each_of {K : Kw} {H : Hp} {O : Addr → Prop} : ∀ {xs : List V} {ds : List PyData} {its : List Value}, Reps K H O xs ds → Vals xs its → PySem.W.EachIs (fun v d => ∃ x, RelV x v ∧ Rep K H O x d) its ds
  | [], _, _, .nil, .nil => .nil
  | _ :: _, _, _, .cons a b, .cons c d => .cons ⟨_, c, a⟩ (each_of b d)
theorem each_ofP {K : Kw} {H : Hp} {O : Addr → Prop} : ∀ {xs : List V} {ds : List PyData} {its : List Value}, Reps K H O xs ds → Vals xs its → PyData.plainAll ds = true → PySem.W.EachIs (fun v d => ∃ x, RelV x v ∧ Rep K H O x d ∧ d.plain = true) its ds
  | [], _, _, .nil, .nil, _ => .nil
  | _ :: _, _, _, .cons a b, .cons c d, p => by
    rw [PyData.plainAll, Bool.and_eq_true] at p
    exact .cons ⟨_, c, a, p.1⟩ (each_ofP b d p.2)
theorem of_each {K : Kw} {H : Hp} {O : Addr → Prop} : ∀ {its : List Value} {ds : List PyData}, PySem.W.EachIs (fun v d => ∃ x, RelV x v ∧ Rep K H O x d) its ds → ∃ xs, Vals xs its ∧ Reps K H O xs ds
  | _, _, .nil => ⟨[], .nil, .nil⟩
  | _, _, .cons h t => by
    obtain ⟨x, r, p⟩ := h
    obtain ⟨xs, rs, ps⟩ := of_each t
    exact ⟨x :: xs, .cons r rs, .cons p ps⟩
theorem call_sortedL (hu : X.A.units + 66 < cLine) : CallL X (.builtin "sorted") sortedL := by
  intro pins s σ H vs us Q I rv ⟨O, ds, ok, r, q⟩
  unfold sortedL at q
  split at q
  · rename_i ds
    split at q
    · rename_i h
      rw [Bool.and_eq_true, Bool.and_eq_true, List.all_eq_true] at h
      obtain ⟨v, rfl, r1⟩ := reps1 r
      obtain ⟨a, ys, rfl, hs, r2⟩ := r1.lst
      obtain ⟨its, rits, hl, hz⟩ := I.list hs
      rw [Vals.ref1 rv]
      have el : ys.length = ds.length := r2.length
      have eR := each_ofP r2 rits (alike_plains (alikeB_iff h.1.1))
      refine PySem.W.sorted_data (enc := id) hl.isList eR (eR.mono fun v d ⟨x, rx, px, pp⟩ => Dp.reads I d x v (px.dp pp) rx) (by rw [List.map_id]; exact alikeB_iff h.1.1) (by rw [List.map_id]; exact sortB_iff h.1.2) (by omega)
        (fun b hb => by
          have := of_decide_eq_true (h.2 b hb)
          show X.A.units + 2 + b.depth < cLine
          omega) fun out ho eo => ?_
      obtain ⟨xs, rx, px⟩ := of_each (eo.mono fun v d ⟨x, rx, px, _⟩ => ⟨x, rx, px⟩)
      obtain ⟨ep, he'⟩ := PyProof.Rows.sortedAll_at s.heap its out.toArray
      have hlen : xs.length ≤ sizeLine := by
        have e1 : xs.length = out.length := rx.length
        omega
      have hn : H (s.heap.objs.size + 1) = none := I.hok.fresh (Nat.le_succ _)
      refine ⟨.ref _, upd H (s.heap.objs.size + 1) (.lst xs), I.laid (t' := s.toks) (fun _ _ => PyProof.Rows.sortedAll_old) (Nat.le_succ _) ⟨hlen, out, ep, rx, he'⟩, rfl, giveL_lst q px _ hn⟩
    · exact q.elim
  · exact q.elim
end
end Den

set_option Elab.async false
set_option linter.all false
set_option maxRecDepth 100000
set_option maxHeartbeats 4000000
namespace Den
open PySem PySem.Spec PyProof.Rows L2

/-! ### isinstance(x, T), T a built-in class -/
def tyN : PyData → String
  | .none => "NoneType"
  | .bool _ => "bool"
  | .int _ => "int"
  | .str _ => "str"
  | .list _ => "list"
  | .tuple _ => "tuple"
  | .dict _ => "dict"
def kindN (n : String) : Bool := n == "int" || n == "bool" || n == "str" || n == "list" || n == "tuple" || n == "dict"
theorem kind_ok {n : String} (h : kindN n = true) (d : PyData) : kitB (tyN d) n = some (isinstD n d) := by
  simp only [kindN, Bool.or_eq_true, beq_iff_eq] at h
  rcases h with ((((rfl | rfl) | rfl) | rfl) | rfl) | rfl <;> cases d <;> simp only [tyN, isinstD] <;> decide +kernel
section
variable {X : Cx} {W : WX}
theorem RepB.ty {H : Hp} {O : Addr → Prop} {v : V} {d : PyData} (h : RepB X.kw H O v d) (nd : ∀ kvs, d ≠ .dict kvs) : TyX X.K H v (.type (tyN d)) := by
  cases d with
  | none => obtain rfl := h.non; exact .base .non
  | bool b => obtain rfl := h.bl; exact .base (.bl b)
  | int i => obtain rfl := h.int; exact .base (.int i)
  | str i => obtain rfl := h.str; exact .base (.str i)
  | list ds =>
    obtain ⟨a, xs, rfl, (h | ⟨o, h⟩) | ⟨o, its, n, h, hc, _⟩, r⟩ := h.lst
    · exact .base (.lst h)
    · exact .base (.frz h)
    · exact .kList h hc
  | tuple ds =>
    obtain ⟨a, xs, rfl, (h | ⟨o, h⟩) | ⟨o, its, n, h, hc, _⟩, r⟩ := h.tup
    · exact .base (.tup h)
    · exact .fTuple h
    · exact .kTuple h hc
  | dict kvs => exact absurd rfl (nd kvs)
theorem re_isi {n : String} {x : Str} {a : Expr} {p p2 pos : Pos} {ca : DE} (hn : kindN n = true) (hg : Gl X "isinstance") (hm : X.mg "isinstance" = none) (ha : PE X a (RB X W ca)) (hg2 : Gl X x) (hm2 : X.mg x = none) (hv : bootBuiltins x = some (.type n)) (hx : x ≠ "__name__" := by decide) (hd : (x == ("__debug__" : Str)) = false := by decide)
    (hs : starEach [a, .Name x p2] X.env = (false, eval a X.env) :: starEach [.Name x p2] X.env := by rfl) (hs2 : starEach [.Name x p2] X.env = [(false, eval (.Name x p2) X.env)] := by rfl) (hpl : (backTo pos (starEach [.Name x p2] X.env)).any (·.1) = false := by rfl) :
    PE X (.Call (.Name "isinstance" p) [a, .Name x p2] [] pos) (RE X W (dIsi n ca)) :=
  pe_imp (pe_callB call_isi hg hm boot_isinstance (pa_cons ha (pa_cons (pe_bltn (v := .ty n) hg2 hm2 hv rfl hx hd) pa_nil hs2) hs) (by decide) (by decide) hs hpl) fun σ H Q ⟨Hb, ρ, O, g, p⟩ =>
    RB.go g p fun d v H1 g1 s1 r1 p1 => by
      unfold isiD at p1
      split at p1
      · exact p1.elim
      · rename_i nd
        exact ⟨v, .ty n, _, _, _, rfl, .ty n, r1.ty nd, kit_ty (kind_ok hn d), p1 _ H1 s1 (.bl _)⟩
end

/-! ### sorted(set(xs)), len(set(xs)), xs ints -/
def insU (i : Int) : List Int → List Int
  | [] => [i]
  | j :: js => if i < j then i :: j :: js else if i = j then j :: js else j :: insU i js
def sortU (ns : List Int) : List Int := ns.foldr insU []
theorem mem_insU (i k : Int) : ∀ js, k ∈ insU i js ↔ k = i ∨ k ∈ js
  | [] => by simp [insU]
  | j :: js => by
    unfold insU
    split
    · simp
    · split
      · rename_i h; subst h; simp
      · simp [mem_insU i k js]; constructor <;> rintro (h | h | h) <;> simp [h]
theorem insU_asc (i : Int) : ∀ {js : List Int}, js.Pairwise (· < ·) → (insU i js).Pairwise (· < ·)
  | [], _ => by simp [insU]
  | j :: js, h => by
    unfold insU
    have h' := List.pairwise_cons.mp h
    split
    · rename_i hl
      refine List.pairwise_cons.mpr ⟨fun y hy => ?_, h⟩
      rcases List.mem_cons.mp hy with rfl | hy
      · exact hl
      · have := h'.1 y hy; omega
    · split
      · exact h
      · rename_i h1 h2
        refine List.pairwise_cons.mpr ⟨fun y hy => ?_, insU_asc i h'.2⟩
        rcases (mem_insU i y js).mp hy with rfl | hy
        · omega
        · exact h'.1 y hy
theorem sortU_asc : ∀ ns : List Int, (sortU ns).Pairwise (· < ·)
  | [] => List.Pairwise.nil
  | i :: ns => insU_asc i (sortU_asc ns)
theorem mem_sortU (k : Int) : ∀ ns : List Int, k ∈ sortU ns ↔ k ∈ ns
  | [] => by simp [sortU]
  | i :: ns => by
    show k ∈ insU i (sortU ns) ↔ _
    rw [mem_insU, mem_sortU k ns, List.mem_cons]
theorem asc_ext : ∀ {xs ys : List Int}, xs.Pairwise (· < ·) → ys.Pairwise (· < ·) → (∀ k, k ∈ xs ↔ k ∈ ys) → xs = ys
  | [], [], _, _, _ => rfl
  | [], y :: ys, _, _, h => by have := (h y).mpr (by simp); simp at this
  | x :: xs, [], _, _, h => by have := (h x).mp (by simp); simp at this
  | x :: xs, y :: ys, hx, hy, h => by
    have hx' := List.pairwise_cons.mp hx
    have hy' := List.pairwise_cons.mp hy
    have e : x = y := by
      have h1 := (h x).mp (by simp)
      have h2 := (h y).mpr (by simp)
      rcases List.mem_cons.mp h1 with e | h1
      · exact e
      · rcases List.mem_cons.mp h2 with e | h2
        · exact e.symm
        · have := hx'.1 y h2
          have := hy'.1 x h1
          omega
    subst e
    rw [asc_ext hx'.2 hy'.2 fun k => ?_]
    constructor
    · intro hk
      have := (h k).mp (List.mem_cons_of_mem _ hk)
      rcases List.mem_cons.mp this with e | this
      · subst e; have := hx'.1 k hk; omega
      · exact this
    · intro hk
      have := (h k).mpr (List.mem_cons_of_mem _ hk)
      rcases List.mem_cons.mp this with e | this
      · subst e; have := hy'.1 k hk; omega
      · exact this
set_option maxHeartbeats 8000000 in
theorem call_set_listI {P : Program} {w : World} {A : Around} {E : Value → Shared → Prop} {s : Shared} {l : Addr} {items : Array Value} (ns : List Int) {Q : Value → Shared → Prop} (hh : A.handled = none) (hl : s.heap.IsList l items) (hit : IntsAre items.toList ns) (hb : ns.length + 1 < scanBound)
    (h : ∀ (h' : Heap) (tk c : Nat), SetR w h' s.heap.objs.size (fun j => decide (j ∈ ns)) c → c ≤ ns.length → (∀ b o, s.heap.get? b = some o → h'.get? b = some o) → Q (.ref s.heap.objs.size) { s with heap := h', toks := tk }) :
    wpAny (model P w) A (call (.type "set") [.ref l]) Q E s := by
  have hisz : items.size = ns.length := by
    have q := IntsAre.length hit
    rw [Array.length_toList] at q
    exact q
  obtain ⟨c, tl, hmro⟩ := F.called_set.mro
  have hmade := F.called_set.made
  have hsub := F.called_set.sub
  refine wpAny_call (codeAny_of_tree ?_)
  show wpAny _ _ (callAny (.type "set") _) _ _ _
  refine wpAny_pure ⟨Code.quiet_builtin _ (by decide +kernel), codeAny_builtin F.entry_type_call ?_⟩
  rw [Around.under_plain (weight_type_call_type "set" [.ref l] []) rfl]
  have h1 := F.called_set.notType
  have h2 := F.called_set.canCreate
  have hct := F.typeCall_set_1 (.ref l)
  repeat (any_goals (first | assumption | wp_step))
  refine codeAny_mono (code_set_led1 (.ref l) (E := E) (Q₁ := fun obj s₁ => obj = .ref s.heap.objs.size ∧ s₁ = { s with heap := s.heap.push { cls := .type "set", dict := none, data := .set #[] 0 (.fresh 0 0 (!w.params.followText "set-order")) } }) ⟨rfl, rfl⟩) fun r s₁ hr => ?_
  cases r with
  | error e => exact hr
  | ok fl =>
    cases fl with
    | ret obj =>
      obtain ⟨rfl, rfl⟩ := hr
      have hS : (s.heap.push { cls := .type "set", dict := none, data := .set #[] 0 (.fresh 0 0 (!w.params.followText "set-order")) }).get? s.heap.objs.size = some { cls := .type "set", dict := none, data := .set #[] 0 (.fresh 0 0 (!w.params.followText "set-order")) } := Heap.get?_push_size _ rfl
      have hT : Shared.TypeIs { s with heap := s.heap.push { cls := .type "set", dict := none, data := .set #[] 0 (.fresh 0 0 (!w.params.followText "set-order")) } } (.ref s.heap.objs.size) "set" := ⟨_, hS, rfl⟩
      have hli := F.called_set.init.lookup
      have hbi := F.called_set.init.bind (.ref s.heap.objs.size)
      repeat (any_goals (first | assumption | wp_step))
      refine codeAny_mono (codeAny_call_builtin (R := wants (fun r s₂ => r = .none ∧ ∃ h' tk c, s₂ = { s with heap := h', toks := tk } ∧ SetR w h' s.heap.objs.size (fun j => decide (j ∈ ns)) c ∧ c ≤ ns.length ∧
          (∀ b o, s.heap.get? b = some o → h'.get? b = some o)) E) F.called_set.init.plain F.entry_set_init (check_set_init_1 hT ?_)) fun r₂ s₂ hr₂ => ?_
      · obtain ⟨ol, hol, hcl, nl, hdl⟩ := hl
        obtain ⟨ocls, odict, odata, oslots⟩ := ol
        simp only at hcl hdl
        subst hcl; subst hdl
        have hol' : (s.heap.push { cls := .type "set", dict := none, data := .set #[] 0 (.fresh 0 0 (!w.params.followText "set-order")) }).get? l = some { cls := .type "list", dict := odict, data := .seq items nl, slots := oslots } := Heap.get?_push_of_some _ hol
        have hsls := F.sub_list_set
        have hslf := F.sub_list_frozenset
        have hne : (Value.type "list" == Value.type "dict") = false := by decide
        have hl1 : (s.heap.push { cls := .type "set", dict := none, data := .set #[] 0 (.fresh 0 0 (!w.params.followText "set-order")) }).IsList l items := ⟨_, hol', rfl, nl, rfl⟩
        unfold Builtin.«set.__init__» noKeywords Builtin.Frozenset.updateFrom
        generalize hPI : pyIter = PI
        wp_walk
        subst hPI
        refine wpAny_pyIter_list hl1 ?_
        refine wpAny_bind (wpAny_runValue ?_)
        have hlS : l < s.heap.objs.size := Heap.lt_size hol
        have hh3 : A.in1.in1.in1.handled = none := by simp [hh]
        have hneI : l ≠ (s.heap.push { cls := .type "set", dict := none, data := .set #[] 0 (.fresh 0 0 (!w.params.followText "set-order")) }).objs.size := by
          rw [Heap.size_push]; exact Nat.ne_of_lt (Nat.lt_succ_of_lt hlS)
        have hSf : s.heap.objs.size ∉ [(s.heap.push { cls := .type "set", dict := none, data := .set #[] 0 (.fresh 0 0 (!w.params.followText "set-order")) }).objs.size, l] := by
          rw [Heap.size_push]; simp only [List.mem_cons, List.mem_singleton, List.not_mem_nil, or_false, not_or]
          exact ⟨Nat.ne_of_lt (Nat.lt_succ_self _), Nat.ne_of_gt hlS⟩
        have hval : ∀ (i : Nat) (v : Value), items[i]? = some v → ∃ k t, ns[i]? = some k ∧ v = .int k t := fun i v hv => by
          have hi : i < ns.length := by rw [← hisz]; exact (Array.getElem?_eq_some_iff.mp hv).1
          obtain ⟨t, e⟩ := PyProof.Rows.IntsAre.int_at hit i v (by rw [Array.getElem?_toList]; exact hv)
          refine ⟨ns[i], t, List.getElem?_eq_getElem hi, ?_⟩
          rw [e, List.getD_eq_getElem?_getD, List.getElem?_eq_getElem hi] <;> rfl
        refine set_update_ints ((Walks.list hh3 _ l hneI items).toS) s.heap.objs.size
          hSf ns hisz hb hval (items.size - 0) 0 _ (by omega) (Nat.zero_le _)
          ⟨⟨_, Heap.get?_push_size _ rfl, rfl, rfl⟩, (hl1.push _)⟩ ?hS0 ?hR
        case hS0 =>
          have hget : ((s.heap.push { cls := .type "set", dict := none, data := .set #[] 0 (.fresh 0 0 (!w.params.followText "set-order")) }).push { cls := .type "list_iterator", data := .fields #[.ref l, .int 0 0] }).get? s.heap.objs.size
              = some { cls := .type "set", dict := none, data := .set #[] 0 (.fresh 0 0 (!w.params.followText "set-order")) } := Heap.get?_push_of_some _ hS
          exact ⟨0, Nat.le_refl 0, setR_new_at hget⟩
        case hR =>
          intro s' c' hm hc' hS'
          obtain ⟨h', g2, d', tk', os'⟩ := s'
          have eg : g2 = s.gens := hm.gens
          have ed : d' = s.drawn := hm.drawn
          have eo : os' = s.os := hm.os
          subst eg; subst ed; subst eo
          show wpAny _ _ _ _ _ _
          refine wpAny_pure ?_
          show wpAny _ _ (ret Value.none) _ _ _
          rw [hisz] at hc'
          refine wpAny_pure ⟨rfl, h', tk', c', rfl, hS', hc', fun b o e => ?_⟩
          have hb0 : b < s.heap.objs.size := Heap.lt_size e
          have hb1 : b ≠ s.heap.objs.size := Nat.ne_of_lt hb0
          have hb2 : b ≠ (s.heap.push { cls := .type "set", dict := none, data := .set #[] 0 (.fresh 0 0 (!w.params.followText "set-order")) }).objs.size := by
            rw [Heap.size_push]; exact Nat.ne_of_lt (Nat.lt_succ_of_lt hb0)
          exact hm.heap b o (by simp only [List.mem_cons, List.mem_singleton, List.not_mem_nil, or_false, not_or]; exact ⟨hb1, hb2⟩) (Heap.get?_push_of_some _ (Heap.get?_push_of_some _ e))
      · cases r₂ with
        | error e => exact hr₂
        | ok fl₂ =>
          cases fl₂ with
          | ret r =>
            obtain ⟨rfl, h', tk, c', rfl, hS', hc', hk'⟩ := hr₂
            repeat (any_goals (first | assumption | wp_step))
            exact h _ _ _ hS' hc' hk'
          | _ => exact hr₂.elim
    | _ => exact hr.elim

def intsIn : PyData → Option (List Int)
  | .list ds => intsOf ds
  | .tuple ds => intsOf ds
  | _ => none
def dSortSet (a : DE) : DL := fun ρ => a ρ >>= fun d => match intsIn d with
  | some ns => if ns.length < 64 then .ok ((sortU ns).map .int) else stuck
  | none => stuck
def dLenSet (a : DE) : DE := fun ρ => a ρ >>= fun d => match intsIn d with
  | some ns => if ns.length < 4000 then .ok (.int (sortU ns).length) else stuck
  | none => stuck
theorem pr_ints {K : Kw} {H : Hp} {O : Addr → Prop} : ∀ ns : List Int, Reps K H O (ns.map V.int) (ns.map PyData.int)
  | [] => .nil
  | n :: ns => .cons (.int n) (pr_ints ns)
section
variable {X : Cx} {W : WX} {a : Expr} {ca : DE}
/-- set(x), x a list or a tuple of ints: the set where it stands, for what follows -/
theorem set_ints {pins : List (Addr × Obj)} {σ : St} {H : Hp} {s : Shared} {O : Addr → Prop} {v : V} {u : Value} {d : PyData} {ns : List Int} {Qf : Value → Shared → Prop} (hc : X.calm = true) (I : Inv X pins σ H s) (rv : RelV v u) (r : RepB X.kw H O v d) (e : intsIn d = some ns) (hb : ns.length + 1 < scanBound)
    (h : ∀ (h' : Heap) (tk c : Nat), SetR X.w h' s.heap.objs.size (fun j => decide (j ∈ ns)) c → c ≤ ns.length → (∀ b o, s.heap.get? b = some o → h'.get? b = some o) → Qf (.ref s.heap.objs.size) { s with heap := h', toks := tk }) :
    wpAny (model X.prog X.w) X.A (call (.type "set") [u]) Qf X.xe s := by
  cases d with
  | list ds =>
    obtain ⟨b, xs, rfl, hs, rs⟩ := r.lst
    cases rv
    obtain ⟨its, rits, hl, hz⟩ := I.list hs
    obtain rfl := reps_ints rs e
    exact call_set_listI ns (I.ok.hd hc) hl.isList (by simpa using rits.ints) hb h
  | tuple ds =>
    obtain ⟨b, xs, rfl, hs, rs⟩ := r.tup
    cases rv
    obtain ⟨its, rits, hl, hz⟩ := I.tuple hs
    obtain rfl := reps_ints rs e
    exact call_set_tupI ns (I.ok.hd hc) hl (by simpa using rits.ints) hb h
  | _ => cases e
theorem rl_sortSet {p p2 q pos : Pos} (hc : X.calm = true) (hg : Gl X "sorted") (hm : X.mg "sorted" = none) (hg2 : Gl X "set") (hm2 : X.mg "set" = none) (ha : PE X a (RB X W ca))
    (na : starEach [a] X.env = (false, eval a X.env) :: starEach [] X.env := by rfl) : PE X (.Call (.Name "sorted" p) [.Call (.Name "set" p2) [a] [] q] [] pos) (RL X W (dSortSet ca)) := by
  refine ⟨fun pins s σ H Q I ⟨Hb, ρ, O, g, p⟩ => ?_⟩
  refine Call_ (ld_blt I hg hm boot_sorted ?_)
  refine PyProof.Rows.callWith_builtin1 (PyProof.Rows.args_cons ?_ rfl) rfl rfl
  refine Call_ (ld_blt I hg2 hm2 boot_set ?_)
  have key : RB X W ca σ H (fun v H1 => ∃ d ns, Same H H1 ∧ GoodE X.kw Hb O ρ σ H1 ∧ RepB X.kw H1 O v d ∧ intsIn d = some ns ∧ ns.length < 64 ∧ ∀ a vs H', Same H H' → H a = none → H' a = some (.lst vs) → Reps X.kw H' (fun b => O b ∨ b = a) vs ((sortU ns).map .int) → Q (.ref a) H') := by
    refine RB.go g p fun d v H1 g1 s1 r1 p1 => ?_
    split at p1
    · rename_i ns e
      split at p1
      · rename_i hl
        exact ⟨d, ns, s1, g1, r1, e, hl, p1⟩
      · exact p1.elim
    · exact p1.elim
  refine PyProof.Rows.callWith_type1 (PyProof.Rows.args_cons (thn (ha.run pins s σ H _ I key) fun v s1 ⟨x, H1, I1, r1, q1⟩ => PyProof.Rows.args_nil ?_) na) na rfl
  obtain ⟨d, ns, s1', g1, rb, e, hl, q1⟩ := q1
  refine set_ints hc I1 r1 rb e (by unfold scanBound; omega) fun h' tk c R hcl hk => ?_
  refine PyProof.Rows.args_nil ?_
  have I2 : Inv X pins σ H1 { s1 with heap := h', toks := tk } := I1.kept hk
  refine sorted_set R (I2.ok.hd hc) (by omega) fun s' p out cc ks k gg oo hp hgo hi hs hm hlen => ?_
  have e2 : ks = sortU ns := asc_ext hs (sortU_asc ns) fun i => by rw [hm, mem_sortU]; simp
  subst e2
  have hl2 : ((sortU ns).map V.int).length ≤ sizeLine := by rw [List.length_map, hlen, sizeLine_eq]; omega
  have hn : H1 p = none := I2.hok.fresh hp
  have J : Inv X pins σ (upd H1 p (.lst ((sortU ns).map V.int))) { s1 with heap := s'.heap, gens := s'.gens, drawn := s'.drawn, toks := s'.toks } :=
    I2.call (s := { s1 with heap := h', toks := tk }) (ch := []) (Un.laid k hp hn) (I2.hok.laid k hp ⟨hl2, out.toList, cc, vals_of_ints hi, hgo⟩) (by rw [gg]; exact I2.bare) (fun _ z => nomatch z)
  have es : s' = { s1 with heap := s'.heap, gens := s'.gens, drawn := s'.drawn, toks := s'.toks } := by
    obtain ⟨a1, a2, a3, a4, a5⟩ := s'
    have z : a5 = s1.os := oo
    rw [z]
  rw [es]
  exact ⟨.ref p, _, J, rfl, q1 p _ _ (s1'.trans (same_upd hn)) (s1'.free hn) upd_same (pr_ints _)⟩
theorem re_lenSet {p p2 q pos : Pos} (hc : X.calm = true) (hg : Gl X "len") (hm : X.mg "len" = none) (hg2 : Gl X "set") (hm2 : X.mg "set" = none) (ha : PE X a (RB X W ca))
    (na : starEach [a] X.env = (false, eval a X.env) :: starEach [] X.env := by rfl) : PE X (.Call (.Name "len" p) [.Call (.Name "set" p2) [a] [] q] [] pos) (RE X W (dLenSet ca)) := by
  refine ⟨fun pins s σ H Q I ⟨Hb, ρ, O, g, p⟩ => ?_⟩
  refine Call_ (ld_blt I hg hm boot_len ?_)
  refine PyProof.Rows.callWith_builtin1 (PyProof.Rows.args_cons ?_ rfl) rfl rfl
  refine Call_ (ld_blt I hg2 hm2 boot_set ?_)
  have key : RB X W ca σ H (fun v H1 => ∃ d ns, Same H H1 ∧ GoodE X.kw Hb O ρ σ H1 ∧ RepB X.kw H1 O v d ∧ intsIn d = some ns ∧ ns.length < 4000 ∧ ∀ v H', Same H H' → Rep X.kw H' O v (.int (sortU ns).length) → Q v H') := by
    refine RB.go g p fun d v H1 g1 s1 r1 p1 => ?_
    split at p1
    · rename_i ns e
      split at p1
      · rename_i hl
        exact ⟨d, ns, s1, g1, r1, e, hl, p1⟩
      · exact p1.elim
    · exact p1.elim
  refine PyProof.Rows.callWith_type1 (PyProof.Rows.args_cons (thn (ha.run pins s σ H _ I key) fun v s1 ⟨x, H1, I1, r1, q1⟩ => PyProof.Rows.args_nil ?_) na) na rfl
  obtain ⟨d, ns, s1', g1, rb, e, hl, q1⟩ := q1
  refine set_ints hc I1 r1 rb e (by unfold scanBound; omega) fun h' tk c R hcl hk => ?_
  refine PyProof.Rows.args_nil ?_
  have I2 : Inv X pins σ H1 { s1 with heap := h', toks := tk } := I1.kept hk
  obtain ⟨o, es, ep, t, ho, hex, hd, hgd, nd, hmem, hb, hf, hn, _⟩ := R
  have hlen : c = (sortU ns).length := by
    have pm : (es.toList.map keyOf).Perm (sortU ns) := (List.perm_ext_iff_of_nodup nd ((sortU_asc ns).imp (fun h => by omega))).mpr fun k => by
      rw [← hmem k, mem_sortU]; simp
    have := pm.length_eq
    rw [List.length_map, Array.length_toList, hn] at this
    exact this
  refine call_len_set ho hex hd hf (by rw [hn] <;> omega) ⟨.int (sortU ns).length, H1, I2.tok _, ⟨_, by rw [hn, hlen]⟩, q1 _ H1 s1' (.int _)⟩
end
end Den

set_option Elab.async false
set_option linter.all false
set_option maxRecDepth 100000
set_option maxHeartbeats 4000000
namespace Den
open PySem PySem.Spec PyProof.Rows L2

/-! ### zip of two lists, of two tuples -/
def zipP (xs ys : List PyData) : List PyData := (xs.zip ys).map fun p => .tuple [p.1, p.2]
def zipD : List PyData → Rs (List PyData)
  | [.list xs, .list ys] => .ok (zipP xs ys)
  | [.tuple xs, .tuple ys] => .ok (zipP xs ys)
  | _ => stuck
theorem zip_at {xs ys : List PyData} {i : Nat} {d : PyData} (h : (zipP xs ys)[i]? = some d) : ∃ a b, xs[i]? = some a ∧ ys[i]? = some b ∧ d = .tuple [a, b] := by
  unfold zipP at h
  rw [List.getElem?_map, Option.map_eq_some_iff] at h
  obtain ⟨p, hp, rfl⟩ := h
  rw [List.getElem?_zip_eq_some] at hp
  exact ⟨p.1, p.2, hp.1, hp.2, rfl⟩
theorem zip_lt {xs ys : List PyData} {i : Nat} (h : i < (zipP xs ys).length) : i < xs.length ∧ i < ys.length := by
  unfold zipP at h
  rw [List.length_map, List.length_zip] at h
  omega
theorem pair_new {K : Kw} {H : Hp} {O : Addr → Prop} {T : Addr} {x y : V} {a b : PyData} (ok : OkO O H) (hT : H T = none) (ra : Rep K H O x a) (rb : Rep K H O y b) : Same H (upd H T (.tup [x, y])) ∧ Rep K (upd H T (.tup [x, y])) O (.ref T) (.tuple [a, b]) :=
  ⟨same_upd hT, .tup (.inl ⟨.inl upd_same, no_own ok hT⟩) (RepAll.iff.mpr (.cons (ra.ext (Ext.same (same_upd hT))) (.cons (rb.ext (Ext.same (same_upd hT))) .nil)))⟩
theorem src_zipL {K : Kw} {a b : Addr} {xs ys : List V} {ds es : List PyData} {P : Hp → (Addr → Prop) → Prop} (h : ∀ H O, P H O → (SqL K.1 H a xs ∧ Reps K H O xs ds) ∧ SqL K.1 H b ys ∧ Reps K H O ys es) : Src K (Itz K.1 a b) P (zipP ds es) where
  goes := fun i H O hi p => by
    obtain ⟨⟨q, r⟩, q', r'⟩ := h H O p
    obtain ⟨h1, h2⟩ := zip_lt hi
    have l1 : i < xs.length := by rw [r.length]; exact h1
    have l2 : i < ys.length := by rw [r'.length]; exact h2
    exact ⟨xs, ys, xs[i], ys[i], q, q', List.getElem?_eq_getElem l1, List.getElem?_eq_getElem l2⟩
  stops := fun H O p => by
    obtain ⟨⟨q, r⟩, q', r'⟩ := h H O p
    refine ⟨xs, ys, q, q', ?_⟩
    unfold zipP
    rw [List.length_map, List.length_zip, r.length, r'.length]
    omega
  yields := fun i H O v H' d hd p ok hy => by
    obtain ⟨⟨q, r⟩, q', r'⟩ := h H O p
    obtain ⟨T, x, y, rfl, hT, rfl, h1, h2⟩ := hy
    obtain ⟨da, db, e1, e2, rfl⟩ := zip_at hd
    obtain ⟨x', ex, rx⟩ := pr_get r e1
    obtain ⟨y', ey, ry⟩ := pr_get r' e2
    have := h1 xs q
    rw [ex] at this; cases this
    have := h2 ys q'
    rw [ey] at this; cases this
    exact pair_new ok hT rx ry
theorem src_zipT {K : Kw} {a b : Addr} {xs ys : List V} {ds es : List PyData} {P : Hp → (Addr → Prop) → Prop} (h : ∀ H O, P H O → (SqT K.1 H a xs ∧ Reps K H O xs ds) ∧ SqT K.1 H b ys ∧ Reps K H O ys es) : Src K (RZ.ItzT K.1 a b) P (zipP ds es) where
  goes := fun i H O hi p => by
    obtain ⟨⟨q, r⟩, q', r'⟩ := h H O p
    obtain ⟨h1, h2⟩ := zip_lt hi
    have l1 : i < xs.length := by rw [r.length]; exact h1
    have l2 : i < ys.length := by rw [r'.length]; exact h2
    exact ⟨xs, ys, xs[i], ys[i], q, q', List.getElem?_eq_getElem l1, List.getElem?_eq_getElem l2⟩
  stops := fun H O p => by
    obtain ⟨⟨q, r⟩, q', r'⟩ := h H O p
    refine ⟨xs, ys, q, q', ?_⟩
    unfold zipP
    rw [List.length_map, List.length_zip, r.length, r'.length]
    omega
  yields := fun i H O v H' d hd p ok hy => by
    obtain ⟨⟨q, r⟩, q', r'⟩ := h H O p
    obtain ⟨T, x, y, rfl, hT, rfl, h1, h2⟩ := hy
    obtain ⟨da, db, e1, e2, rfl⟩ := zip_at hd
    obtain ⟨x', ex, rx⟩ := pr_get r e1
    obtain ⟨y', ey, ry⟩ := pr_get r' e2
    have := h1 xs q
    rw [ex] at this; cases this
    have := h2 ys q'
    rw [ey] at this; cases this
    exact pair_new ok hT rx ry
theorem reps2' {K : Kw} {H : Hp} {O : Addr → Prop} {vs : List V} {d e : PyData} (h : Paired (Rep K H O) vs [d, e]) : ∃ v w, vs = [v, w] ∧ Rep K H O v d ∧ Rep K H O w e := by
  cases h with
  | cons a b =>
    cases b with
    | cons b c => cases c; exact ⟨_, _, rfl, a, b⟩
section
variable {X : Cx} {W : WX} {e e2 : Expr} {p pos tpos : Pos} {elts : List Expr} {kk : Nat} {cs : DL}
theorem ri_zip (hg : Gl X "zip") (hm : X.mg "zip" = none) (ha : PA X [e, e2] (RA X W cs))
    (hs : starEach [e, e2] X.env = (false, eval e X.env) :: starEach [e2] X.env := by rfl) (hpl : (backTo pos (starEach [e2] X.env)).any (·.1) = false := by rfl) :
    PI X (.Tuple elts kk tpos) (.Call (.Name "zip" p) [e, e2] [] pos) (RI X W (dCallL zipD cs)) :=
  pi_imp (RZ.pi_zipA hg hm ha hs hpl) fun σ H R ⟨Hb, ρ, O, g, q⟩ => RA.go g q fun ds vs H1 g1 s1 r1 p1 => by
    unfold zipD at p1
    split at p1
    · obtain ⟨v, w, rfl, r, r'⟩ := reps2' r1
      cases r with
      | @lst a xs _ h r =>
        cases r' with
        | @lst b ys _ h' r' =>
          exact ⟨a, b, xs, ys, rfl, .inl ⟨h.sql, h'.sql, p1 _ (fun H' O' => (LAt H' O' a xs ∧ Reps X.kw H' O' xs _) ∧ LAt H' O' b ys ∧ Reps X.kw H' O' ys _) H1 s1 (src_zipL fun H' O' z => ⟨⟨z.1.1.sql, z.1.2⟩, z.2.1.sql, z.2.2⟩)
            (fun H O H' O' e z => ⟨⟨z.1.1.ext e, z.1.2.ext e⟩, z.2.1.ext e, z.2.2.ext e⟩) ⟨⟨h, RepAll.iff.mp r⟩, h', RepAll.iff.mp r'⟩⟩⟩
    · obtain ⟨v, w, rfl, r, r'⟩ := reps2' r1
      cases r with
      | @tup a xs _ h r =>
        cases r' with
        | @tup b ys _ h' r' =>
          exact ⟨a, b, xs, ys, rfl, .inr ⟨h.sqt, h'.sqt, p1 _ (fun H' O' => (TAt X.kw H' O' a xs ∧ Reps X.kw H' O' xs _) ∧ TAt X.kw H' O' b ys ∧ Reps X.kw H' O' ys _) H1 s1 (src_zipT fun H' O' z => ⟨⟨z.1.1.sqt, z.1.2⟩, z.2.1.sqt, z.2.2⟩)
            (fun H O H' O' e z => ⟨⟨z.1.1.ext e, z.1.2.ext e⟩, z.2.1.ext e, z.2.2.ext e⟩) ⟨⟨h, RepAll.iff.mp r⟩, h', RepAll.iff.mp r'⟩⟩⟩
    · exact p1.elim
end

/-! ### dicts that are made -/
def keyD : PyData → Option Key
  | .int i => some (.inl i)
  | .str x => some (.inr x)
  | _ => none
def putD (kvs : List (Key × PyData)) (k : Key) (v : PyData) : List (Key × PyData) :=
  if (kvs.any fun kv => decide (kv.1 = k)) = true then kvs.map (fun kv => if kv.1 = k then (kv.1, v) else kv) else kvs ++ [(k, v)]
abbrev DD := EnvD → Rs (List (Key × PyData))
def KV (K : Kw) (H : Hp) (O : Addr → Prop) (p : Key × V) (q : Key × PyData) : Prop := p.1 = q.1 ∧ Rep K H O p.2 q.2
abbrev KVs (K : Kw) (H : Hp) (O : Addr → Prop) : List (Key × V) → List (Key × PyData) → Prop := Paired (KV K H O)
theorem KVs.ext {K : Kw} {H H' : Hp} {O O' : Addr → Prop} {ps qs} (e : Ext H O H' O') (h : KVs K H O ps qs) : KVs K H' O' ps qs := Paired.mono (fun _ _ r => ⟨r.1, r.2.ext e⟩) h
theorem kvs_any {K : Kw} {H : Hp} {O : Addr → Prop} (k : Key) : ∀ {ps qs}, KVs K H O ps qs → (ps.any fun kv => decide (kv.1 = k)) = (qs.any fun kv => decide (kv.1 = k))
  | _, _, .nil => rfl
  | _, _, .cons a b => by
    rw [List.any_cons, List.any_cons, kvs_any k b, a.1]
theorem kvs_map {K : Kw} {H : Hp} {O : Addr → Prop} {k : Key} {x : V} {d : PyData} (r : Rep K H O x d) : ∀ {ps qs}, KVs K H O ps qs → KVs K H O (ps.map fun kv => if kv.1 = k then (kv.1, x) else kv) (qs.map fun kv => if kv.1 = k then (kv.1, d) else kv)
  | _, _, .nil => .nil
  | p :: ps, q :: qs, .cons a b => by
    rw [List.map_cons, List.map_cons]
    refine .cons ?_ (kvs_map r b)
    rw [a.1]
    split
    · exact ⟨rfl, r⟩
    · exact ⟨a.1, a.2⟩
theorem kvs_put {K : Kw} {H : Hp} {O : Addr → Prop} {k : Key} {x : V} {d : PyData} (r : Rep K H O x d) {ps qs} (h : KVs K H O ps qs) : KVs K H O (putK ps k x) (putD qs k d) := by
  unfold putK putD
  rw [kvs_any k h]
  split
  · exact kvs_map r h
  · exact pr_append h (.cons ⟨rfl, r⟩ .nil)
theorem keyD_kV {K : Kw} {H : Hp} {O : Addr → Prop} {v : V} {d : PyData} {k : Key} (e : keyD d = some k) (r : Rep K H O v d) : v = kV k := by
  cases r with
  | int i => cases e; rfl
  | str x => cases e; rfl
  | _ => cases e
def compD (t : Tg) (tt : DT) (ek ev : DE) (ρ : EnvD) : List (Key × PyData) → List PyData → Rs (List (Key × PyData))
  | acc, [] => .ok acc
  | acc, d :: ds => t.d ρ d >>= fun ρ1 => tt ρ1 >>= fun b => if b then ek ρ1 >>= fun y => ev ρ1 >>= fun z => (match keyD y with
      | some k => if acc.length < sizeLine then compD t tt ek ev ρ (putD acc k z) ds else stuck
      | none => stuck) else compD t tt ek ev ρ acc ds
def dDc (it : DL) (vs : List Nat) (t : Tg) (tt : DT) (ek ev : DE) : DD := fun ρ => it ρ >>= fun ds => if t.within vs then noExc (compD t tt ek ev (wipeD ρ vs) [] ds) else stuck
section
variable {X : Cx} {W : WX}
/-- a new dict -/
def RDc (X : Cx) (W : WX) (c : DD) : TE := fun σ H Q => ∃ Hb ρ O, GoodE X.kw Hb O ρ σ H ∧ Post X W O σ H (c ρ) fun ds => ∀ a kvs H', Same H H' → H a = none → H' a = some (.dK kvs) → KVs X.kw H' (fun b => O b ∨ b = a) kvs ds → Q (.ref a) H'
theorem GoodE.beginD {K : Kw} {Hb : Hp} {O : Addr → Prop} {ρ : EnvD} {σ : St} {H1 : Hp} {D : Addr} {o : HO} (g : GoodE K Hb O ρ σ H1) (hD : H1 D = none) : GoodE K H1 (fun b => O b ∨ b = D) ρ σ (upd H1 D o) :=
  (show GoodE K H1 O ρ σ H1 from ⟨g.len, Same.refl H1, g.dom, g.dat, fun i ds h => (g.bor i ds h).elim fun a h => h.elim fun vs h => ⟨a, vs, h.1, g.same.seq h.2.1, h.2.2⟩, fun i kvs h => (g.bod i kvs h).elim fun z h => h.elim fun a h => h.elim fun o h => ⟨z, a, o, h.1, g.same a o h.2.1, h.2.2⟩⟩).wider (same_upd hD) (ext_new hD) fun a ha => by
    rcases ha with ha | rfl
    · obtain ⟨o, e1⟩ := g.dom a ha
      exact ⟨o, same_upd hD a o e1⟩
    · exact ⟨_, upd_same⟩
variable {it : DL} {vs : List Nat} {t : Tg} {tt : DT} {ek ev : DE}
theorem dc_go {σ H Q} (h : RDc X W (dDc it vs t tt ek ev) σ H Q) : tDc (RIW X W it) (t.g X.kw) (RT X W0 tt) (RE X W0 ek) (RE X W0 ev) vs σ H Q := by
  obtain ⟨Hb, ρ, O, g, p⟩ := h
  refine ⟨Hb, ρ, O, g, p.bind.imp fun ds _ p J P H1 s1 S wk hP => ?_⟩
  intro D hD
  split at p
  · rename_i hw
    cases hr : compD t tt ek ev (wipeD ρ vs) [] ds with
    | error er => rw [hr] at p; exact p.elim
    | ok out =>
      rw [hr] at p
      have p : ∀ a kvs H', Same H H' → H a = none → H' a = some (.dK kvs) → KVs X.kw H' (fun b => O b ∨ b = a) kvs out → Q (.ref a) H' := p
      have oo : ∀ a, (O a ∨ a = D) → O a ∨ H1 a = none := fun a h => h.elim .inl fun e => .inr (e ▸ hD)
      have gb := (g.to s1).beginD (o := .dK []) hD
      let Pv : Nat → Hp → Prop := fun i H' => ∃ acc dacc, H' D = some (.dK acc) ∧ KVs X.kw H' (fun b => O b ∨ b = D) acc dacc ∧ Same H1 H' ∧ compD t tt ek ev (wipeD ρ vs) dacc (ds.drop i) = .ok out
      refine ⟨fun i m H => m = ds.length - i ∧ i ≤ ds.length ∧ Pv i H, ⟨ds.length, by simp, Nat.zero_le _, [], [], upd_same, .nil, same_upd hD, by simpa using hr⟩, ?_⟩
      rintro i m H2 ⟨rfl, hi, acc, dacc, h1, r1, s', hc1⟩
      have p2 := wk H1 O H2 _ s' oo hP
      by_cases hlt : i < ds.length
      · refine .inr ⟨S.goes i H2 _ hlt p2, Pv (i + 1), fun H' p' => ⟨ds.length - (i + 1), by omega, rfl, hlt, p'⟩, fun x H3 hy => ?_⟩
        obtain ⟨d, hd, hdrop⟩ := drop_cons hlt
        have ex : Ext (upd H1 D (.dK [])) (fun b => O b ∨ b = D) H2 (fun b => O b ∨ b = D) := ⟨fun a o h n => s' a o (by rw [upd_ne (fun z => n (.inr z))] at h; exact h), fun a h => .inl h, fun a o h => by
          by_cases z : a = D
          · exact ⟨_, by rw [z]; exact h1⟩
          · rw [upd_ne z] at h; exact ⟨o, s' a o h⟩⟩
        have g0 : GoodE X.kw H1 (fun b => O b ∨ b = D) ρ σ H2 := gb.wider s' ex fun a h => by
          obtain ⟨o, q⟩ := gb.dom a h
          exact ex.there a o q
        obtain ⟨s3, rx⟩ := S.yields i H2 _ x H3 d hd p2 g0.dom hy
        rw [hdrop, compD] at hc1
        obtain ⟨ρ1, ht, hc1⟩ := ok_bind hc1
        obtain ⟨b, htt, hc1⟩ := ok_bind hc1
        refine Tg.go GoodE.setOk t ((g0.to s3).wipe vs) rx ht fun σ2 g3 hwp => ⟨by rw [hwp vs hw, wipe_wipe], H1, ρ1, _, g3, Post.w0 htt fun H4 s4 => ?_⟩
        cases b with
        | false => exact ⟨acc, dacc, s4 _ _ (s3 _ _ h1), r1.ext (Ext.same (s3.trans s4)), s'.trans (s3.trans s4), hc1⟩
        | true =>
          obtain ⟨y, hy1, hc1⟩ := ok_bind hc1
          obtain ⟨z, hz1, hc1⟩ := ok_bind hc1
          refine ⟨H1, ρ1, _, g3.to s4, Post.w0 hy1 fun yv H5 s5 ry => ⟨H1, ρ1, _, (g3.to s4).to s5, Post.w0 hz1 fun zv H6 s6 rz => ?_⟩⟩
          split at hc1
          · rename_i k ek'
            split at hc1
            · rename_i hl
              have sall := s3.trans (s4.trans (s5.trans s6))
              have hO : (fun b => O b ∨ b = D) D := .inr rfl
              have hD6 : H6 D = some (.dK acc) := sall _ _ h1
              refine ⟨acc, k, keyD_kV ek' ry, hD6, by rw [r1.length]; exact hl, putK acc k zv, putD dacc k z, upd_same, ?_, ?_, hc1⟩
              · exact kvs_put (rz.ext (ext_app hO)) ((r1.ext (Ext.same sall)).ext (ext_app hO))
              · intro a o h
                rw [upd_ne (ne_of_none h hD)]
                exact sall a o (s' a o h)
            · cases hc1
          · cases hc1
      · have ei : i = ds.length := by omega
        subst ei
        rw [List.drop_length, compD] at hc1
        cases hc1
        exact .inl ⟨S.stops H2 _ p2, p D acc H2 (s1.trans s') (s1.free hD) h1 r1⟩
  · exact p.elim
theorem rd_dc {kx vx tg iter : Expr} {ifs : List Expr} {scope : Scope} {own : List (Str × Nat)} {pos : Pos} (hc : X.calm = true) (hN : X.N.Nodup) (hi : PI X tg iter (RIW X W it)) (ok : BlkOk X.N X.env.scope scope own)
    (hg : ∀ (s : Shared) (H : Hp) (C : Addr) (cl : List (Str × Addr)) (fp : List Addr), PG (X.blk s H scope (compEnvC scope cl C X.env) fp) tg (t.g X.kw)) (ht : ∀ (s : Shared) (H : Hp) (C : Addr) (cl : List (Str × Addr)) (fp : List Addr), PTs (X.blk s H scope (compEnvC scope cl C X.env) fp) ifs (RT (X.blk s H scope (compEnvC scope cl C X.env) fp) W0 tt))
    (hk : ∀ (s : Shared) (H : Hp) (C : Addr) (cl : List (Str × Addr)) (fp : List Addr), PE (X.blk s H scope (compEnvC scope cl C X.env) fp) kx (RE (X.blk s H scope (compEnvC scope cl C X.env) fp) W0 ek))
    (he : ∀ (s : Shared) (H : Hp) (C : Addr) (cl : List (Str × Addr)) (fp : List Addr), PE (X.blk s H scope (compEnvC scope cl C X.env) fp) vx (RE (X.blk s H scope (compEnvC scope cl C X.env) fp) W0 ev)) (hs : ∀ x, foldedSetIterable iter X.env x = pure x := by intro _; rfl) :
    PE X (.DictComp kx vx [⟨tg, iter, ifs, 0⟩] scope pos) (RDc X W (dDc it (own.map (·.2)) t tt ek ev)) := pe_imp (pe_dc hc hN hi ok hg ht hk he hs) fun σ H Q h => dc_go h
def dLenDc (c : DD) : DE := fun ρ => c ρ >>= fun kvs => .ok (.int kvs.length)
theorem re_lenDc {e : Expr} {p pos : Pos} {c : DD} (hg : Gl X "len") (hm : X.mg "len" = none) (he : PE X e (RDc X W c)) (hs : starEach [e] X.env = (false, eval e X.env) :: starEach [] X.env := by rfl) : PE X (.Call (.Name "len" p) [e] [] pos) (RE X W (dLenDc c)) :=
  pe_imp (pe_callB call_lenD hg hm boot_len (pa_cons he pa_nil hs) (by decide) (by decide) hs rfl) fun σ H Q ⟨Hb, ρ, O, g, p⟩ =>
    ⟨Hb, ρ, O, g, p.bind.imp fun ds _ p a kvs H' s n h r => ⟨a, kvs, rfl, h, by rw [r.length]; exact p _ H' s (.int _)⟩⟩
end

/-! ### a list of one's own changes -/
section
variable {K : Kw} {G : Gd} {O : Addr → Prop} {ρ : EnvD} {σ : St} {H : Hp}
theorem Good.updO (g : Good K G O ρ σ H) {i : Nat} {x x' : B} {a : Addr} {o' : HO} (hi : ρ[i]? = some x) (hx : x.own = true) (hs : σ[i]? = some (some (.ref a))) (hO : O a) (hf : G.H0 a = none) (r : OwnAt K (upd H a o') O a x') :
    Good K G O (ρ.set i x') σ (upd H a o') :=
  have ex : Ext H O (upd H a o') O := ext_app hO
  have hl : i < ρ.length := (List.getElem?_eq_some_iff.mp hi).1
  have apart : ∀ (j : Nat) (y : B) (b : Addr), i ≠ j → ρ[j]? = some y → y.own = true → σ[j]? = some (some (.ref b)) → b ≠ a := fun j y b n hj hy eb z => by
    subst z
    exact n (g.inj i j b x y hi hj hx hy hs eb)
  { len := by rw [List.length_set]; exact g.len
    same := fun b o h => by rw [upd_ne (ne_of_none h hf)]; exact g.same b o h
    sub := g.sub
    dom := fun b h => by
      obtain ⟨o, e⟩ := g.dom b h
      exact ex.there b o e
    dat := fun j d h => by
      rcases set_some h with ⟨rfl, z, _⟩ | ⟨n, h⟩
      · subst z; exact r.elim
      · obtain ⟨v, e, q⟩ := g.dat j d h
        exact ⟨v, e, q.ext ex⟩
    ol := fun j d h => by
      rcases set_some h with ⟨rfl, z, _⟩ | ⟨n, h⟩
      · subst z
        obtain ⟨vs, h1, r⟩ := r
        exact ⟨a, vs, hs, h1, r, hO, hf⟩
      · obtain ⟨b, us, e, h1, q, o, f⟩ := g.ol j d h
        refine ⟨b, us, e, ?_, q.ext ex, o, f⟩
        rw [upd_ne (apart j _ b n h rfl e)]
        exact h1
    fz := fun j d h => by
      rcases set_some h with ⟨rfl, z, _⟩ | ⟨n, h⟩
      · subst z; exact r.elim
      · obtain ⟨b, us, e, h1, q⟩ := g.fz j d h
        exact ⟨b, us, e, h1, q.ext ex⟩
    od := fun j d h => by
      rcases set_some h with ⟨rfl, z, _⟩ | ⟨n, h⟩
      · subst z
        exact ⟨a, hs, r, hO, hf⟩
      · obtain ⟨b, e, h1, o, f⟩ := g.od j d h
        exact ⟨b, e, h1.ext ex fun u z => by rw [upd_ne (apart j _ b n h rfl e)]; exact z, o, f⟩
    fd := fun j d h => by
      rcases set_some h with ⟨rfl, z, _⟩ | ⟨n, h⟩
      · subst z; exact r.elim
      · obtain ⟨z, b, u0, e, h0, h1⟩ := g.fd j d h
        exact ⟨z, b, u0, e, h0, h1.ext ex fun u z => by rw [upd_ne (ne_of_none h0 hf)]; exact z⟩
    inj := fun j k b x1 y1 hj hk w1 w2 sj sk => by
      have w : ∀ {j : Nat} {y : B}, (ρ.set i x')[j]? = some y → y.own = true → ∃ y', ρ[j]? = some y' ∧ y'.own = true := fun {j y} h hw => by
        rcases set_some h with ⟨rfl, z, _⟩ | ⟨n, h⟩
        · exact ⟨x, hi, hx⟩
        · exact ⟨y, h, hw⟩
      obtain ⟨d1, e1, v1⟩ := w hj w1
      obtain ⟨d2, e2, v2⟩ := w hk w2
      exact g.inj j k b d1 d2 e1 e2 v1 v2 sj sk }
theorem Good.updL (g : Good K G O ρ σ H) {i : Nat} {ds ds' : List PyData} {a : Addr} {vs' : List V} (hi : ρ[i]? = some (.ol ds)) (hs : σ[i]? = some (some (.ref a))) (hO : O a) (hf : G.H0 a = none) (r : Reps K (upd H a (.lst vs')) O vs' ds') :
    Good K G O (ρ.set i (.ol ds')) σ (upd H a (.lst vs')) := g.updO hi rfl hs hO hf ⟨vs', upd_same, r⟩
end
/-- the list at slot i becomes f of it and of the arguments -/
def sUpd (i : Nat) (cs : DL) (f : List PyData → List PyData → Rs (List PyData)) : DS := fun ρ => match ρ[i]? with
  | some (.ol ds) => lift (cs ρ) ρ fun as => f ds as >>= fun ds' => .ok (.nx (ρ.set i (.ol ds')))
  | _ => stuck
def appF : List PyData → List PyData → Rs (List PyData)
  | ds, [d] => if ds.length < sizeLine then .ok (ds ++ [d]) else stuck
  | _, _ => stuck
def extF : List PyData → List PyData → Rs (List PyData)
  | ds, [.list es] => if ds.length + es.length ≤ sizeLine then .ok (ds ++ es) else stuck
  | _, _ => stuck
section
variable {X : Cx} {G : Gd} {W : WX} {e : Expr} {pos : Pos} {cs : DL} {ca : DE}
theorem upd_go {r : V → List V → Hp → VK → Prop} {i : Nat} {f : List PyData → List PyData → Rs (List PyData)}
    (hr : ∀ (a : Addr) (vs as : List V) (H : Hp) (O : Addr → Prop) (ds es ds' : List PyData) (Q : VK), H a = some (.lst vs) → O a → Reps X.kw H O vs ds → Reps X.kw H O as es → f ds es = .ok ds' →
      (∀ vs' : List V, Reps X.kw (upd H a (.lst vs')) O vs' ds' → Q .non (upd H a (.lst vs'))) → r (.ref a) as H Q) {D : Ends} {σ : St} {H : Hp} (h : RS X G W (sUpd i cs f) D σ H) :
    tBM X.K "list" r (tVar i) (RA X W cs) σ H (fun _ H1 => D.nx σ H1) := by
  obtain ⟨ρ, O, g, p⟩ := h
  unfold sUpd at p
  split at p
  · rename_i ds hi
    obtain ⟨a, vs, e1, h1, r1, o1, f1⟩ := g.ol i ds hi
    refine ⟨_, e1, .inl ⟨rfl, vs, SqL.of h1⟩, H, ρ, O, g.e, OutR.lift g p fun es _ p as H1 s ra => ?_⟩
    obtain ⟨ds', hf, p⟩ := OutR.bind p
    exact hr a vs as H1 O ds es ds' _ (s _ _ h1) o1 (r1.ext (Ext.same s)) ra hf fun vs' rv => p σ _ O ((Ext.same s).trans (ext_app o1)) ((g.to s).updL hi e1 o1 f1 rv)
  · exact p.elim
theorem rs_append {i : Nat} {x : Str} {p apos cpos : Pos} (hN : X.N[i]? = some x) (hv : Vis X.env.scope x) (he : PE X e (RE X W ca)) (hd : (x == ("__debug__" : Str)) = false := by decide) (hcd : (x == ("__classdict__" : Str)) = false := by decide)
    (hbase : attributeBase (.Name x p) "append" X.env (eval (.Name x p) X.env) = eval (.Name x p) X.env := by rfl)
    (hfew : ((backTo cpos (starEach [e] X.env)).all (fun x => !x.1) && (backToKw cpos (keywordEach [] X.env)).all (fun x => x.1.isSome)
      && decide (([e] : List Expr).length + ([] : List Keyword).length + (if ([] : List Keyword).isEmpty then 0 else 1) < 30)) = true := by rfl)
    (hline : (apos.endLine == cpos.line) = true := by rfl) (hs : starEach [e] X.env = (false, eval e X.env) :: starEach [] X.env := by rfl) (hplain : (backTo cpos (starEach [] X.env)).any (·.1) = false := by rfl)
    (hsw : swapsWith (.Call (.Attribute (.Name x p) "append" apos) [e] [] cpos) none pos.line X.env = pure false := by rfl) : PS X (.Expr (.Call (.Attribute (.Name x p) "append" apos) [e] [] cpos) pos) (RS X G W (sUpd i (dCons ca dNil) appF)) :=
  ps_imp (ps_expr (pe_bm PySem.F.plainAttrs_list PySem.F.slot_list_append PySem.F.type_list_append mt_append (pe_var hN hv hd hcd) (ra_cons he ra_nil hs) hbase hfew hline hs hplain) hsw) fun D σ H h => upd_go (fun a vs as H O ds es ds' Q ha hO r ra hf q => by
    unfold appF at hf
    split at hf
    · split at hf
      · rename_i d hl
        cases hf
        cases ra with
        | cons a1 b1 =>
          cases b1
          exact ⟨a, vs, _, rfl, rfl, ha, by rw [r.length]; exact hl, q _ (pr_append (r.ext (ext_app hO)) (.cons (a1.ext (ext_app hO)) .nil))⟩
      · cases hf
    · cases hf) h
theorem rs_extend {i : Nat} {x : Str} {p apos cpos : Pos} (hN : X.N[i]? = some x) (hv : Vis X.env.scope x) (he : PE X e (RE X W ca)) (hd : (x == ("__debug__" : Str)) = false := by decide) (hcd : (x == ("__classdict__" : Str)) = false := by decide)
    (hbase : attributeBase (.Name x p) "extend" X.env (eval (.Name x p) X.env) = eval (.Name x p) X.env := by rfl)
    (hfew : ((backTo cpos (starEach [e] X.env)).all (fun x => !x.1) && (backToKw cpos (keywordEach [] X.env)).all (fun x => x.1.isSome)
      && decide (([e] : List Expr).length + ([] : List Keyword).length + (if ([] : List Keyword).isEmpty then 0 else 1) < 30)) = true := by rfl)
    (hline : (apos.endLine == cpos.line) = true := by rfl) (hs : starEach [e] X.env = (false, eval e X.env) :: starEach [] X.env := by rfl) (hplain : (backTo cpos (starEach [] X.env)).any (·.1) = false := by rfl)
    (hsw : swapsWith (.Call (.Attribute (.Name x p) "extend" apos) [e] [] cpos) none pos.line X.env = pure false := by rfl) : PS X (.Expr (.Call (.Attribute (.Name x p) "extend" apos) [e] [] cpos) pos) (RS X G W (sUpd i (dCons ca dNil) extF)) :=
  ps_imp (ps_expr (pe_bm PySem.F.plainAttrs_list PySem.F.slot_list_extend PySem.F.type_list_extend mt_extend (pe_var hN hv hd hcd) (ra_cons he ra_nil hs) hbase hfew hline hs hplain) hsw) fun D σ H h => upd_go (fun a vs as H O ds es ds' Q ha hO r ra hf q => by
    unfold extF at hf
    split at hf
    · split at hf
      · rename_i es hl
        cases hf
        cases ra with
        | cons a1 b1 =>
          cases b1
          cases a1 with
          | @lst b zs _ hb rb =>
            have rb := RepAll.iff.mp rb
            exact ⟨a, b, vs, zs, rfl, rfl, ha, hb.1, by rw [r.length, rb.length]; exact hl, q _ (pr_append (r.ext (ext_app hO)) (rb.ext (ext_app hO)))⟩
      · cases hf
    · cases hf) h
end
end Den

set_option Elab.async false
set_option linter.all false
set_option maxRecDepth 100000
set_option maxHeartbeats 4000000
namespace Den
open PySem PySem.Spec PyProof.Rows L2

/-! ### several except clauses, some of them with a name -/
/-- a clause: the class, the name's slot, the suite -/
abbrev Hd := Value × Option Nat × (Addr → Value → Option Addr → TS)
def endsGone (D : Ends) : Option Nat → Ends
  | none => D
  | some i => { nx := fun σ' H' => D.nx (σ'.set i none) H', rt := D.rt, bk := fun σ' H' => D.bk (σ'.set i none) H', ct := fun σ' H' => D.ct (σ'.set i none) H' }
def slotIn (σ : St) (a : Addr) : Option Nat → St
  | none => σ
  | some i => σ.set i (some (.ref a))
def wManyN (K : PySem.W.Frag) (Wout : WX) (D : Ends) : List Hd → WX
  | [] => Wout
  | (c, i, ts) :: r => fun cls d σ H => ∃ b, PySem.W.exmOne K cls c = some b ∧ (b = true → ∀ a, H a = none → ts a cls d (endsGone D i) (slotIn σ a i) H) ∧ (b = false → wManyN K Wout D r cls d σ H)
inductive HdsN (X : Cx) : List ExceptHandler → List Hd → Prop
  | nil : HdsN X [] []
  | cons {x : Str} {c : Value} {ts : Addr → Value → Option Addr → TS} {b₀ : Stmt} {suite : List Stmt} {np pos' : Pos} {hds : List ExceptHandler} {l : List Hd} (hc : Names X x c)
      (hsu : ∀ (a : Addr) (oe : Obj) (cls : Value) (d : Option Addr) (pn : List (Addr × Obj)), Zc cls d oe → (∃ vs, oe.data = .fields vs) → PSs (X.suite a ((a, oe) :: pn)) (b₀ :: suite) (ts a cls d)) (r : HdsN X hds l) :
      HdsN X (.ExceptHandler (some (.Name x np)) none (b₀ :: suite) pos' :: hds) ((c, none, ts) :: l)
  | as {x n : Str} {i : Nat} {c : Value} {ts : Addr → Value → Option Addr → TS} {b₀ : Stmt} {suite : List Stmt} {np pos' : Pos} {hds : List ExceptHandler} {l : List Hd} (hi : X.N[i]? = some n) (hln : X.env.kindOf n = some .local) (hc : Names X x c)
      (hsu : ∀ (a : Addr) (oe : Obj) (cls : Value) (d : Option Addr) (pn : List (Addr × Obj)), Zc cls d oe → (∃ vs, oe.data = .fields vs) → PSs (X.suite a ((a, oe) :: pn)) (b₀ :: suite) (ts a cls d)) (r : HdsN X hds l) :
      HdsN X (.ExceptHandler (some (.Name x np)) (some n) (b₀ :: suite) pos' :: hds) ((c, some i, ts) :: l)
section
variable {X : Cx} {body : List Stmt} {h₀ : ExceptHandler} {hds : List ExceptHandler} {l : List Hd} {pos : Pos} {tb : WX → TS} {Wout : WX}
theorem ps_tryN (hs : X.stack = X.env :: X.outer) (hf : X.env.frame = some X.env.locals) (hN : X.N.Nodup) (tk : Takes X Wout)
    (hb : ∀ (W : WX) (pn : List (Addr × Obj)) (xe : Value → Shared → Prop), Takes (X.tr pn xe) W → PassesOwn (model X.prog X.w) X.A X.env xe → PSs (X.tr pn xe) body (tb W))
    (hh : HdsN X (h₀ :: hds) l) : PS X (.Try body (h₀ :: hds) [] [] pos) (fun D σ H => tb (wManyN X.K Wout D l) D σ H) := by
  refine ⟨fun pins s σ H D I h => ?_⟩
  have ok := I.ok
  have hfr : X.A.frames = some (X.env :: X.outer) := by rw [ok.frames, hs]
  refine wpAny_Try_except ?_
  refine wpAny_mono ((hb (wManyN X.K Wout D l) (X.pn ++ pins) (fun e s₁ => wpAny (model X.prog X.w) X.A (noteFrame e X.env) (fun _ s₂ => wpAny (model X.prog X.w) X.A (setFlight e none) (fun _ s₃ =>
    wpAny (model X.prog X.w) X.A (handleBy e X.env (h₀ :: hds)) (SP X pins D) X.xe s₃) X.xe s₂) X.xe s₁) (fun u s' xx => ?_) PassesOwn.looking).run [] s σ H D (I.toTry _) h) (fun f s1 hsp => ?_) (fun e s1 he => he)
  · obtain ⟨a, B, sI, pins', σ', H', cls, d, rfl, J', nb, up, sky, na, os, ag, w⟩ := xx
    have J : Inv X pins σ' H' sI := J'.ofTry ok
    have sky' : Sky B (X.env :: X.outer) a (Zc cls d) X.env.locals s'.heap := by rw [← hs]; exact sky
    show wpAny (model X.prog X.w) X.A (noteFrame (.ref a) X.env) _ _ _
    refine Sky.land Zc.steady hfr hf sky' fun h3 fl3 up3 => ?_
    have J3 : Inv X pins σ' H' { s' with heap := h3 } := J.landed nb fl3.1 (up.trans up3) os ag
    obtain ⟨oe3, vs3, he3, hz3, hd3⟩ := fl3.there
    have notFr : ∀ {h : Heap} {o : Obj} {vs : Array Value}, h.FunFrames B (X.env :: X.outer) → h.get? a = some o → o.data = .fields vs → a ∉ frs (X.env :: X.outer) := fun {h o vs} ff e dd hm => by
      obtain ⟨_, o', e', hnf⟩ := ff.mem hm
      rw [e] at e'; cases e'
      exact hnf _ dd
    have nfr := notFr fl3.2.2.1 he3 hd3
    have nL : a ≠ X.env.locals := fun z => nfr (List.mem_filterMap.mpr ⟨X.env, List.mem_cons_self, by rw [hf, z]⟩)
    have nF : a ∉ X.fs := fun hm => by
      obtain ⟨e, he, q⟩ := List.mem_filterMap.mp hm
      exact nfr (List.mem_filterMap.mpr ⟨e, List.mem_cons_of_mem _ he, q⟩)
    have S3 := J3.suite he3 hd3 na nL nF
    have LT : PySem.W.Looks (model X.prog X.w) h3 (typeOf (.ref a)) cls := fun A Q E s k q => wpAny_typeOf_ref (k _ _ he3) (by rw [hz3.1]; exact q)
    have test : ∀ {x : Str} {c : Value} {np : Pos} {Q : Value → Shared → Prop} {E : Value → Shared → Prop}, Names X x c → Q c { s' with heap := h3 } → wpAny (model X.prog X.w) (X.A.mark (some (.ref a))) (eval (.Name x np) X.env) Q E { s' with heap := h3 } := fun {x c np Q E} hc q => by
      obtain ⟨hg, hdbg, hm | ⟨hm, hv, hnn⟩⟩ := hc
      · exact ld_glob (X := X.suite a ((a, oe3) :: (X.pn ++ pins))) S3 hg hm q hdbg
      · exact ld_blt (X := X.suite a ((a, oe3) :: (X.pn ++ pins))) S3 hg hm hv q hnn hdbg
    have go : ∀ {hds' : List ExceptHandler} {l' : List Hd}, HdsN X hds' l' → wManyN X.K Wout D l' cls d σ' H' →
        wpAny (model X.prog X.w) X.A (handleBy (.ref a) X.env hds') (SP X pins D) X.xe { s' with heap := h3 } := by
      intro hds' l' hk
      induction hk with
      | nil =>
        intro w
        refine wpAny_handleBy_nil ?_
        obtain ⟨k1, k2, k3, oe, vs, T, oT, ts', he, hz, hd, h1, hr⟩ := id fl3
        unfold PySem.passOn
        refine wpAny_bind (wpAny_field he hd h1 ?_)
        rw [if_neg (show ¬ ((Value.ref T == Value.none) = true) from by simp)]
        have fin : wpAny (model X.prog X.w) X.A (setFlight (.ref a) X.env.frame) (fun _ s4 => wpAny (model X.prog X.w) X.A (throw (.ref a) : Sem Flow) (SP X pins D) X.xe s4) X.xe { s' with heap := h3 } := by
          rw [hf]
          refine HandSPX.setFlight_upZ fl3 fun h4 hh4 up4 => wpAny_throw (tk _ _ ?_)
          exact ⟨a, B, sI, pins, σ', H', cls, d, rfl, J, nb, (up.trans up3).trans up4, .inr (.inr (by rw [hs]; exact hh4)), na, os, ag, w⟩
        first
          | exact wpAny_bind (wpAny_pure (wpAny_bind fin))
          | exact wpAny_bind fin
      | @cons x c ts b₀ suite np pos' hds2 l2 hc hsu r ih =>
        intro w
        obtain ⟨b, hb1, hyes, hno⟩ := w
        refine wpAny_handleBy_cons (codeAny_handlers_test ?_) (by intro q; cases q)
        have LM := PySem.W.exm_one (M := model X.prog X.w) (J3.kIn) LT hb1
        refine test hc (LM.here ?_)
        cases b with
        | true =>
          refine codeAny_handlers_suite ?_
          refine HandSPX.lands_againZ fl3 fun h4 fl4 up4 => ?_
          have J4 : Inv X pins σ' H' { s' with heap := h4 } := J.landed nb fl4.1 ((up.trans up3).trans up4) os ag
          obtain ⟨oe4, vs4, he4, hz4, hd4⟩ := fl4.there
          have S4 := J4.suite he4 hd4 na nL nF
          refine wpAny_mono ((hsu a oe4 cls d (X.pn ++ pins) hz4 ⟨_, hd4⟩).run [] _ _ H' _ S4 (hyes rfl a na)) (fun f s6 hsp => ?_) (fun _ _ z => False.elim z)
          cases f with
          | next =>
            obtain ⟨σ6, H6, S6, q6⟩ := hsp
            exact ⟨_, _, S6.unsuite ok, q6⟩
          | brk =>
            obtain ⟨σ6, H6, S6, q6⟩ := hsp
            exact ⟨_, _, S6.unsuite ok, q6⟩
          | cont =>
            obtain ⟨σ6, H6, S6, q6⟩ := hsp
            exact ⟨_, _, S6.unsuite ok, q6⟩
          | ret u =>
            obtain ⟨v6, σ6, H6, S6, r6, q6⟩ := hsp
            exact ⟨_, _, _, S6.unsuite ok, r6, q6⟩
        | false =>
          show wpAny _ X.A (handleBy (.ref a) X.env hds2) _ _ _
          exact ih (hno rfl)
      | @as x n i c ts b₀ suite np pos' hds2 l2 hi hln hc hsu r ih =>
        intro w
        obtain ⟨b, hb1, hyes, hno⟩ := w
        refine wpAny_handleBy_cons (codeAny_handlers_test ?_) (by intro q; cases q)
        have LM := PySem.W.exm_one (M := model X.prog X.w) (J3.kIn) LT hb1
        refine test hc (LM.here ?_)
        cases b with
        | true =>
          refine codeAny_handlers_suite_as ?_
          refine HandSPX.lands_againZ fl3 fun h4 fl4 up4 => ?_
          have J4 : Inv X pins σ' H' { s' with heap := h4 } := J.landed nb fl4.1 ((up.trans up3).trans up4) os ag
          obtain ⟨oe4, vs4, he4, hz4, hd4⟩ := fl4.there
          have S4 := J4.suite he4 hd4 na nL nF
          refine store_ok (X := X.suite a ((a, oe4) :: (X.pn ++ pins))) (v := .ref a) S4 hN hi (.inl hln) rfl (fun s5 S5 => ?_) (.inr hln)
          refine wpAny_mono ((hsu a oe4 cls d (X.pn ++ pins) hz4 ⟨_, hd4⟩).run [] s5 _ H' _ S5 (hyes rfl a na)) (fun f s6 hsp => ?_) (fun _ _ z => False.elim z)
          have end_ : ∀ {σ6 : St} {H6 : Hp} {Q : Shared → Prop}, Inv (X.suite a ((a, oe4) :: (X.pn ++ pins))) [] σ6 H6 s6 → (∀ s7, Inv X pins (σ6.set i none) H6 s7 → Q s7) →
              wpAny (model X.prog X.w) X.A (do bindName X.env n .none; unbindBehindTheSuite X.env n pos') (fun _ s7 => Q s7) X.xe s6 := fun {σ6 H6 Q} S6 hq => gone_ok (S6.unsuite ok) hN hi hln hq
          cases f with
          | next =>
            obtain ⟨σ6, H6, S6, q6⟩ := hsp
            exact end_ S6 fun s7 J7 => ⟨_, _, J7, q6⟩
          | brk =>
            obtain ⟨σ6, H6, S6, q6⟩ := hsp
            exact end_ S6 fun s7 J7 => ⟨_, _, J7, q6⟩
          | cont =>
            obtain ⟨σ6, H6, S6, q6⟩ := hsp
            exact end_ S6 fun s7 J7 => ⟨_, _, J7, q6⟩
          | ret u =>
            obtain ⟨v6, σ6, H6, S6, r6, q6⟩ := hsp
            exact end_ S6 fun s7 J7 => ⟨_, _, _, J7, r6, q6⟩
        | false =>
          show wpAny _ X.A (handleBy (.ref a) X.env hds2) _ _ _
          exact ih (hno rfl)
    exact go hh w
  · cases f with
    | next =>
      obtain ⟨σ', H', J', q⟩ := hsp
      exact wpAny_execs_nil ⟨σ', H', J'.ofTry ok, q⟩
    | brk =>
      obtain ⟨σ', H', J', q⟩ := hsp
      exact ⟨σ', H', J'.ofTry ok, q⟩
    | cont =>
      obtain ⟨σ', H', J', q⟩ := hsp
      exact ⟨σ', H', J'.ofTry ok, q⟩
    | ret u =>
      obtain ⟨v, σ', H', J', r, q⟩ := hsp
      exact ⟨v, σ', H', J'.ofTry ok, r, q⟩
end

/-! ### the denotation -/
/-- a clause, over data: the class's name, the name's slot, what the suite does with an exception of the class n -/
structure HdD where
  cls : String
  slot : Option Nat
  suite : String → Option (String × PyData) → DS
def catchD (sub : String → String → Option Bool) : List HdD → String → Option (String × PyData) → EnvD → Rs Out
  | [], n, p, ρ => .ok (.xc n p ρ)
  | h :: r, n, p, ρ => match sub n h.cls with
    | some true => match h.slot with
      | none => h.suite n p ρ >>= fun o => match o with
        | .xc _ _ _ => stuck
        | o => .ok o
      | some i => if i < ρ.length then h.suite n p (ρ.set i .un) >>= fun o => match o with
        | .rt d => .ok (.rt d)
        | _ => stuck
        else stuck
    | some false => catchD sub r n p ρ
    | none => stuck
def sTry (sub : String → String → Option Bool) (body : DS) (hs : List HdD) : DS := fun ρ => body ρ >>= fun o => match o with
  | .xc n p ρ' => catchD sub hs n p ρ'
  | o => .ok o
/-- the exception's own dict -/
def PL (K : Kw) (H : Hp) (O : Addr → Prop) (d : Option Addr) : Option (String × PyData) → Prop
  | none => d = none
  | some (f, pd) => ∃ dd v, d = some dd ∧ H dd = some (.xd [((f : Str), v)]) ∧ Rep K H O v pd
/-- what a suite is, the exception in slot i -/
def RSH (X : Cx) (G : Gd) (n : String) (p : Option (String × PyData)) (a : Addr) (cls : Value) (d : Option Addr) (i : Option Nat) (c : DS) : TS := fun D σ H =>
  ∃ ρ O, Good X.kw G O ρ σ H ∧ X.mg n = some cls ∧ (∀ j, i = some j → σ[j]? = some (some (.ref a))) ∧ PL X.kw H O d p ∧ OutR X G W0 D H O (c ρ)
inductive HdsR (X : Cx) (G : Gd) : List ExceptHandler → List HdD → List Hd → Prop
  | nil : HdsR X G [] [] []
  | cons {x : Str} {cls : String} {C : Addr} {su : String → Option (String × PyData) → DS} {b₀ : Stmt} {suite : List Stmt} {np pos' : Pos} {hds : List ExceptHandler} {hs : List HdD} {l : List Hd} (hc : Names X x (.ref C)) (hm : X.mg cls = some (.ref C))
      (hsu : ∀ (a : Addr) (oe : Obj) (cls : Value) (d : Option Addr) (pn : List (Addr × Obj)), Zc cls d oe → (∃ vs, oe.data = .fields vs) → ∀ n p, PSs (X.suite a ((a, oe) :: pn)) (b₀ :: suite) (RSH (X.suite a ((a, oe) :: pn)) G n p a cls d none (su n p))) (r : HdsR X G hds hs l) :
      HdsR X G (.ExceptHandler (some (.Name x np)) none (b₀ :: suite) pos' :: hds) (⟨cls, none, su⟩ :: hs) ((.ref C, none, fun a k d D σ H => ∃ n p, RSH X G n p a k d none (su n p) D σ H) :: l)
  | as {x nm : Str} {i : Nat} {cls : String} {C : Addr} {su : String → Option (String × PyData) → DS} {b₀ : Stmt} {suite : List Stmt} {np pos' : Pos} {hds : List ExceptHandler} {hs : List HdD} {l : List Hd} (hi : X.N[i]? = some nm) (hln : X.env.kindOf nm = some .local) (hc : Names X x (.ref C)) (hm : X.mg cls = some (.ref C))
      (hsu : ∀ (a : Addr) (oe : Obj) (cls : Value) (d : Option Addr) (pn : List (Addr × Obj)), Zc cls d oe → (∃ vs, oe.data = .fields vs) → ∀ n p, PSs (X.suite a ((a, oe) :: pn)) (b₀ :: suite) (RSH (X.suite a ((a, oe) :: pn)) G n p a cls d (some i) (su n p))) (r : HdsR X G hds hs l) :
      HdsR X G (.ExceptHandler (some (.Name x np)) (some nm) (b₀ :: suite) pos' :: hds) (⟨cls, some i, su⟩ :: hs) ((.ref C, some i, fun a k d D σ H => ∃ n p, RSH X G n p a k d (some i) (su n p) D σ H) :: l)
def SubOk (X : Cx) (sub : String → String → Option Bool) : Prop := ∀ n m b, sub n m = some b → ∃ C D, X.mg n = some (.ref C) ∧ X.mg m = some (.ref D) ∧ PySem.W.exmOne X.K (.ref C) (.ref D) = some b
section
variable {X : Cx} {G : Gd} {W : WX}
theorem HdsR.hdsN {hds : List ExceptHandler} {hs : List HdD} {l : List Hd} (h : HdsR X G hds hs l) : HdsN X hds l := by
  induction h with
  | nil => exact .nil
  | cons hc hm hsu r ih => exact .cons hc (fun a oe cls d pn hz hf => ⟨fun pins s σ H D I ⟨n, p, h⟩ => (hsu a oe cls d pn hz hf n p).run pins s σ H D I h⟩) ih
  | as hi hln hc hm hsu r ih => exact .as hi hln hc (fun a oe cls d pn hz hf => ⟨fun pins s σ H D I ⟨n, p, h⟩ => (hsu a oe cls d pn hz hf n p).run pins s σ H D I h⟩) ih
theorem catch_go {sub : String → String → Option Bool} (hsub : SubOk X sub) {D : Ends} {H H' : Hp} {O O' : Addr → Prop} {n : String} {pl : Option (String × PyData)} {ρ : EnvD} {σ : St} {cls : Value} {d : Option Addr} (e : Ext H O H' O') (g : Good X.kw G O' ρ σ H') (hpl : PL X.kw H' O' d pl) (hm : X.mg n = some cls)
    {hds : List ExceptHandler} {hs : List HdD} {l : List Hd} (h : HdsR X G hds hs l) : OutR X G W D H O (catchD sub hs n pl ρ) → wManyN X.K W D l cls d σ H' := by
  induction h with
  | nil =>
    intro p
    cases pl with
    | none =>
      obtain ⟨C, hm', p⟩ := p
      rw [hm] at hm'; cases hm'
      obtain rfl : d = none := hpl
      exact p σ H' O' e g
    | some fp =>
      obtain ⟨f, pd⟩ := fp
      obtain ⟨C, hm', p⟩ := p
      rw [hm] at hm'; cases hm'
      obtain ⟨dd, v, rfl, h1, h2⟩ := hpl
      exact p σ H' O' dd v e g h1 h2
  | @cons x cn C su b₀ suite np pos' hds hs l hc hmc hsu r ih =>
    intro p
    rw [catchD] at p
    cases hq : sub n cn with
    | none => simp only [hq] at p; exact p.elim
    | some b =>
      obtain ⟨C1, D1, e1, e2, e3⟩ := hsub n cn b hq
      rw [hm] at e1; cases e1
      rw [hmc] at e2; cases e2
      refine ⟨b, e3, fun hb a ha => ?_, fun hb => ?_⟩
      · subst hb
        simp only [hq] at p
        obtain ⟨o, ho, p⟩ := OutR.bind p
        refine ⟨n, pl, ρ, O', g, hm, (fun j z => nomatch z), hpl, ?_⟩
        rw [ho]
        cases o with
        | nx ρ' => exact OutR.ext e (show OutR X G W0 D H O (.ok (.nx ρ')) from p)
        | rt d => exact OutR.ext e (show OutR X G W0 D H O (.ok (.rt d)) from p)
        | bk ρ' => exact OutR.ext e (show OutR X G W0 D H O (.ok (.bk ρ')) from p)
        | ct ρ' => exact OutR.ext e (show OutR X G W0 D H O (.ok (.ct ρ')) from p)
        | xc _ _ _ => exact p.elim
      · subst hb
        simp only [hq] at p
        exact ih p
  | @as x nm i cn C su b₀ suite np pos' hds hs l hi hln hc hmc hsu r ih =>
    intro p
    rw [catchD] at p
    cases hq : sub n cn with
    | none => simp only [hq] at p; exact p.elim
    | some b =>
      obtain ⟨C1, D1, e1, e2, e3⟩ := hsub n cn b hq
      rw [hm] at e1; cases e1
      rw [hmc] at e2; cases e2
      refine ⟨b, e3, fun hb a ha => ?_, fun hb => ?_⟩
      · subst hb
        simp only [hq] at p
        split at p
        · rename_i hl
          obtain ⟨o, ho, p⟩ := OutR.bind p
          refine ⟨n, pl, ρ.set i .un, O', g.unset i _, hm, fun j z => ?_, hpl, ?_⟩
          · cases z
            exact set_at (by rw [← g.len]; exact hl)
          · rw [ho]
            cases o with
            | rt d =>
              have p : ∀ v H2 O2, Ext H O H2 O2 → Same G.H0 H2 → Rep X.kw H2 G.O0 v d → D.rt v H2 := p
              exact fun v H2 O2 e2 s r => p v H2 O2 (e.trans e2) s r
            | _ => exact p.elim
        · exact p.elim
      · subst hb
        simp only [hq] at p
        exact ih p
theorem rs_try {body : List Stmt} {h₀ : ExceptHandler} {hds : List ExceptHandler} {hs : List HdD} {l : List Hd} {pos : Pos} {cb : DS} {sub : String → String → Option Bool} (hst : X.stack = X.env :: X.outer) (hf : X.env.frame = some X.env.locals) (hN : X.N.Nodup) (tk : Takes X W) (hsub : SubOk X sub)
    (hb : ∀ (W : WX) (pn : List (Addr × Obj)) (xe : Value → Shared → Prop), Takes (X.tr pn xe) W → PassesOwn (model X.prog X.w) X.A X.env xe → PSs (X.tr pn xe) body (RS (X.tr pn xe) G W cb))
    (hh : HdsR X G (h₀ :: hds) hs l) : PS X (.Try body (h₀ :: hds) [] [] pos) (RS X G W (sTry sub cb hs)) :=
  ps_imp (ps_tryN (tb := fun W => RS X G W cb) hst hf hN tk hb hh.hdsN) fun D σ H ⟨ρ, O, g, p⟩ => by
    refine ⟨ρ, O, g, ?_⟩
    unfold sTry at p
    obtain ⟨o, ho, p⟩ := OutR.bind p
    rw [ho]
    cases o with
    | xc n pl ρ' =>
      have hcls : ∃ C, X.mg n = some (.ref C) := by
        have p : OutR X G W D H O (catchD sub hs n pl ρ') := p
        cases hs with
        | nil => cases hh
        | cons h r =>
          rw [catchD] at p
          cases hq : sub n h.cls with
          | none => simp only [hq] at p; exact p.elim
          | some b =>
            obtain ⟨C1, D1, e1, _⟩ := hsub n h.cls b hq
            exact ⟨C1, e1⟩
      obtain ⟨C, hm⟩ := hcls
      cases pl with
      | none => exact ⟨C, hm, fun σ' H' O' e g' => catch_go hsub e g' (show PL X.kw H' O' none none from rfl) hm hh p⟩
      | some fp =>
        obtain ⟨f, pd⟩ := fp
        exact ⟨C, hm, fun σ' H' O' dd v e g' h1 h2 => catch_go hsub e g' (show PL X.kw H' O' (some dd) (some (f, pd)) from ⟨dd, v, rfl, h1, h2⟩) hm hh p⟩
    | _ => exact p
/-! suites -/
theorem rsh_rs {a : Addr} {oe : Obj} {pn : List (Addr × Obj)} {cls : Value} {d : Option Addr} {n : String} {p : Option (String × PyData)} {i : Option Nat} {ss : List Stmt} {c : DS} (h : PSs (X.suite a ((a, oe) :: pn)) ss (RS (X.suite a ((a, oe) :: pn)) G W0 c)) : PSs (X.suite a ((a, oe) :: pn)) ss (RSH (X.suite a ((a, oe) :: pn)) G n p a cls d i c) :=
  pss_imp h fun D σ H ⟨ρ, O, g, _, _, _, q⟩ => ⟨ρ, O, g, q⟩
/-- isinstance(e, C), e the exception of the suite -/
def tIsE (K : PySem.W.Frag) (cls : Value) (d : Option Addr) (a : Addr) (i : Nat) (C : Addr) : TE := fun σ H Q => σ[i]? = some (some (.ref a)) ∧ ∃ D b, cls = .ref D ∧ d = none ∧ ExcC K D ∧ PySem.W.kitOne K (.ref D) (.ref C) = some b ∧ Q (.bl b) H
theorem pe_isE {a C : Addr} {oe : Obj} {pn : List (Addr × Obj)} {cls : Value} {d : Option Addr} {i : Nat} {x y : Str} {p p1 p2 pos : Pos} (hz : Zc cls d oe) (hf : ∃ vs, oe.data = .fields vs) (hg : Gl X "isinstance") (hm : X.mg "isinstance" = none) (hN : X.N[i]? = some x) (hv : Vis X.env.scope x) (hg2 : Gl X y) (hm2 : X.mg y = some (.ref C))
    (hd : (x == ("__debug__" : Str)) = false := by decide) (hcd : (x == ("__classdict__" : Str)) = false := by decide) (hd2 : (y == ("__debug__" : Str)) = false := by decide)
    (hs : starEach [.Name x p1, .Name y p2] X.env = (false, eval (.Name x p1) X.env) :: starEach [.Name y p2] X.env := by rfl) (hs2 : starEach [.Name y p2] X.env = [(false, eval (.Name y p2) X.env)] := by rfl) (hpl : (backTo pos (starEach [.Name y p2] X.env)).any (·.1) = false := by rfl) :
    PE (X.suite a ((a, oe) :: pn)) (.Call (.Name "isinstance" p) [.Name x p1, .Name y p2] [] pos) (tIsE X.K cls d a i C) := by
  refine ⟨fun pins s σ H Q I ⟨hi, D, b, ec, ed, hC, hk, q⟩ => ?_⟩
  subst ec ed
  exact (pe_callB (X := X.suite a ((a, oe) :: pn)) (call_isE hC hz hf) hg hm boot_isinstance (pa_cons (pe_var hN hv hd hcd) (pa_cons (pe_glob (v := .ref C) hg2 hm2 rfl hd2) pa_nil hs2) hs) (by decide) (by decide) hs hpl).run pins s σ H Q I
    ⟨_, hi, .ref C, .ref C, b, rfl, fun u r => r, hk, q⟩
def KitOk (X : Cx) (sub : String → String → Option Bool) : Prop := ∀ n m b, sub n m = some b → ∃ C D, X.mg n = some (.ref C) ∧ X.mg m = some (.ref D) ∧ PySem.W.kitOne X.K (.ref C) (.ref D) = some b ∧ ExcC X.K C
def sIsi (k : Option Bool) (p : Option (String × PyData)) (a b : DE) : DS := match k, p with
  | some true, none => sRet a
  | some false, none => sRet b
  | _, _ => fun _ => stuck
/-- return A if isinstance(e, C) else B -/
theorem rsh_isi {a C : Addr} {oe : Obj} {pn : List (Addr × Obj)} {cls : Value} {d : Option Addr} {i : Nat} {x y : Str} {cy n : String} {pl : Option (String × PyData)} {p p1 p2 p3 p4 pos : Pos} {ea eb : Expr} {ca cb : DE} {sub : String → String → Option Bool} (hkit : KitOk X sub) (hz : Zc cls d oe) (hf : ∃ vs, oe.data = .fields vs) (hg : Gl X "isinstance") (hm : X.mg "isinstance" = none) (hN : X.N[i]? = some x) (hv : Vis X.env.scope x) (hg2 : Gl X y) (hm2 : X.mg y = some (.ref C)) (hcy : X.mg cy = some (.ref C))
    (ha : PE (X.suite a ((a, oe) :: pn)) ea (RE (X.suite a ((a, oe) :: pn)) W0 ca)) (hb : PE (X.suite a ((a, oe) :: pn)) eb (RE (X.suite a ((a, oe) :: pn)) W0 cb))
    (hd : (x == ("__debug__" : Str)) = false := by decide) (hcd : (x == ("__classdict__" : Str)) = false := by decide) (hd2 : (y == ("__debug__" : Str)) = false := by decide)
    (hs : starEach [.Name x p1, .Name y p2] X.env = (false, eval (.Name x p1) X.env) :: starEach [.Name y p2] X.env := by rfl) (hs2 : starEach [.Name y p2] X.env = [(false, eval (.Name y p2) X.env)] := by rfl) (hpl : (backTo p3 (starEach [.Name y p2] X.env)).any (·.1) = false := by rfl) :
    PSs (X.suite a ((a, oe) :: pn)) [.Return (some (.IfExp (.Call (.Name "isinstance" p) [.Name x p1, .Name y p2] [] p3) ea eb p4)) pos] (RSH (X.suite a ((a, oe) :: pn)) G n pl a cls d (some i) (sIsi (sub n cy) pl ca cb)) :=
  pss_one (ps_imp (ps_ret (pe_ifExp (pt_val (pe_isE hz hf hg hm hN hv hg2 hm2 hd hcd hd2 hs hs2 hpl)) ha hb)) fun D σ H ⟨ρ, O, g, hmn, hj, hpl, q⟩ => by
    cases hq : sub n cy with
    | none => rw [hq] at q; exact q.elim
    | some b =>
      obtain ⟨C1, D1, e1, e2, e3, e4⟩ := hkit n cy b hq
      have e1 : X.mg n = some (.ref C1) := e1
      have hmn : X.mg n = some cls := hmn
      rw [hmn] at e1; cases e1
      rw [hcy] at e2; cases e2
      cases pl with
      | some fp => rw [hq] at q; cases b <;> exact q.elim
      | none =>
        obtain rfl : d = none := hpl
        refine ⟨hj i rfl, C1, b, rfl, rfl, e4, e3, b, rfl, ?_⟩
        rw [hq] at q
        cases b with
        | true => exact ⟨H, ρ, O, g.e, OutR.lift g q fun d _ p v H' s r => p v H' O (Ext.same s) (g.same.trans s) (r.out g.sub)⟩
        | false => exact ⟨H, ρ, O, g.e, OutR.lift g q fun d _ p v H' s r => p v H' O (Ext.same s) (g.same.trans s) (r.out g.sub)⟩)
/-- return isinstance(e, C) -/
theorem rsh_is {a C : Addr} {oe : Obj} {pn : List (Addr × Obj)} {cls : Value} {d : Option Addr} {i : Nat} {x y : Str} {cy n : String} {pl : Option (String × PyData)} {p p1 p2 p3 pos : Pos} {sub : String → String → Option Bool} (hkit : KitOk X sub) (hz : Zc cls d oe) (hf : ∃ vs, oe.data = .fields vs) (hg : Gl X "isinstance") (hm : X.mg "isinstance" = none) (hN : X.N[i]? = some x) (hv : Vis X.env.scope x) (hg2 : Gl X y) (hm2 : X.mg y = some (.ref C)) (hcy : X.mg cy = some (.ref C))
    (hd : (x == ("__debug__" : Str)) = false := by decide) (hcd : (x == ("__classdict__" : Str)) = false := by decide) (hd2 : (y == ("__debug__" : Str)) = false := by decide)
    (hs : starEach [.Name x p1, .Name y p2] X.env = (false, eval (.Name x p1) X.env) :: starEach [.Name y p2] X.env := by rfl) (hs2 : starEach [.Name y p2] X.env = [(false, eval (.Name y p2) X.env)] := by rfl) (hpl : (backTo p3 (starEach [.Name y p2] X.env)).any (·.1) = false := by rfl) :
    PSs (X.suite a ((a, oe) :: pn)) [.Return (some (.Call (.Name "isinstance" p) [.Name x p1, .Name y p2] [] p3)) pos] (RSH (X.suite a ((a, oe) :: pn)) G n pl a cls d (some i) (sIsi (sub n cy) pl (dLit (.bool true)) (dLit (.bool false)))) :=
  pss_one (ps_imp (ps_ret (pe_isE hz hf hg hm hN hv hg2 hm2 hd hcd hd2 hs hs2 hpl)) fun D σ H ⟨ρ, O, g, hmn, hj, hpl, q⟩ => by
    cases hq : sub n cy with
    | none => rw [hq] at q; exact q.elim
    | some b =>
      obtain ⟨C1, D1, e1, e2, e3, e4⟩ := hkit n cy b hq
      have e1 : X.mg n = some (.ref C1) := e1
      have hmn : X.mg n = some cls := hmn
      rw [hmn] at e1; cases e1
      rw [hcy] at e2; cases e2
      cases pl with
      | some fp => rw [hq] at q; cases b <;> exact q.elim
      | none =>
        obtain rfl : d = none := hpl
        refine ⟨hj i rfl, C1, b, rfl, rfl, e4, e3, ?_⟩
        rw [hq] at q
        cases b with
        | true => exact (show OutR X G W0 D H O (.ok (.rt (.bool true))) from q) (.bl true) H O Ext.refl g.same (.bl true)
        | false => exact (show OutR X G W0 D H O (.ok (.rt (.bool false))) from q) (.bl false) H O Ext.refl g.same (.bl false))
end
end Den

set_option Elab.async false
set_option linter.all false
set_option maxRecDepth 100000
set_option maxHeartbeats 4000000
namespace Den
open PySem PySem.Spec PyProof.Rows L2

theorem u64 {k : Nat} {A : Around} (r : Room k A) : A.units + 64 < cLine := r.units
theorem u65 {k : Nat} {A : Around} (r : Room k A) : A.units + 65 < cLine := by have := r.un; omega
theorem u66 {k : Nat} {A : Around} (r : Room k A) : A.units + 66 < cLine := by have := r.un; omega
section
variable {X : Cx} {G : Gd} {W : WX}
/-! constants of the module -/
theorem re_globI {x : Str} {n : Int} {pos : Pos} (hg : Gl X x) (h : ∃ t, X.mg x = some (.int n t)) (hd : (x == ("__debug__" : Str)) = false := by decide) : PE X (.Name x pos) (RE X W (dLit (.int n))) := by
  obtain ⟨t, h⟩ := h
  exact re_glob hg h (v := .int n) ⟨t, rfl⟩ (krep_int n) hd
theorem re_globS {x n : Str} {pos : Pos} (hg : Gl X x) (h : ∃ t, X.mg x = some (.str n t)) (hd : (x == ("__debug__" : Str)) = false := by decide) : PE X (.Name x pos) (RE X W (dLit (.str n))) := by
  obtain ⟨t, h⟩ := h
  exact re_glob hg h (v := .str n) ⟨t, rfl⟩ (krep_str n) hd
/-! targets -/
theorem rg_nm {i : Nat} {x : Str} {pos : Pos} (hN : X.N.Nodup) (hi : X.N[i]? = some x) (hx : Loc X.env.scope x := by first | exact Or.inl rfl | exact Or.inr rfl) (hf : X.fn x = true ∨ X.env.scope.names.lookup x = some .local := by first | exact .inl rfl | exact .inr rfl) : PG X (.Name x pos) ((Tg.nm i).g X.kw) := by
  rw [Tg.g]
  exact pg_name hN hi hx hf
theorem rgs_nil : PGs X [] (Tg.gs X.kw []) := by
  rw [Tg.gs]
  exact pgs_nil
theorem rgs_cons {t : Tg} {ts : List Tg} {e : Expr} {es : List Expr} (h : PG X e (t.g X.kw)) (hs : PGs X es (Tg.gs X.kw ts)) (he : (assignEach (e :: es) X.env).map (·.2) = assign e X.env :: (assignEach es X.env).map (·.2) := by rfl) : PGs X (e :: es) (Tg.gs X.kw (t :: ts)) := by
  rw [Tg.gs]
  exact pgs_cons h hs he
theorem rg_tp {ts : List Tg} {es : List Expr} {k : Nat} {pos : Pos} (hc : X.calm = true) (h : PGs X es (Tg.gs X.kw ts)) (hn : (assignEach es X.env).length = ts.length := by rfl) (hst : (assignEach es X.env).findIdx? (·.1) = none := by rfl) : PG X (.Tuple es k pos) ((Tg.tp ts).g X.kw) := by
  rw [Tg.g]
  exact pg_tup hc h hn hst
/-! ifs of a comprehension -/
theorem pts_imp {es : List Expr} {t t' : TT} (h : PTs X es t) (i : ∀ σ H Q, t' σ H Q → t σ H Q) : PTs X es t' := ⟨fun pins s σ H Q I q => h.run pins s σ H Q I (i σ H Q q)⟩
theorem rts_nil : PTs X [] (RT X W tYesD) := pts_imp pts_nil fun σ H Q ⟨Hb, ρ, O, g, p⟩ => p H (Same.refl H)
theorem rts_one {e : Expr} {t : DT} (h : PT X e (RT X W t)) : PTs X [e] (RT X W t) := pts_one h
/-! y = [..] -/
theorem rs_ownLc {it : DL} {t : Tg} {tt : DT} {e : DE} {i : Nat} {y : Str} {py : Pos} {elt tg iter : Expr} {ifs : List Expr} {scope : Scope} {own : List (Str × Nat)} {pos spos : Pos} (hc : X.calm = true) (hN : X.N.Nodup) (hy : X.N[i]? = some y) (hyl : X.env.scope.names.lookup y = some .local)
    (hsw : swapsWith (.ListComp elt [⟨tg, iter, ifs, 0⟩] scope pos) (some (.Name y py)) spos.line X.env = pure true) (hi : PI X tg iter (RIW X W it)) (ok : BlkOk X.N X.env.scope scope own)
    (hg : ∀ (s : Shared) (H : Hp) (C : Addr) (cl : List (Str × Addr)) (fp : List Addr), PG (X.blk s H scope (compEnvC scope cl C X.env) fp) tg (t.g X.kw)) (ht : ∀ (s : Shared) (H : Hp) (C : Addr) (cl : List (Str × Addr)) (fp : List Addr), PTs (X.blk s H scope (compEnvC scope cl C X.env) fp) ifs (RT (X.blk s H scope (compEnvC scope cl C X.env) fp) W0 tt))
    (he : ∀ (s : Shared) (H : Hp) (C : Addr) (cl : List (Str × Addr)) (fp : List Addr), PE (X.blk s H scope (compEnvC scope cl C X.env) fp) elt (RE (X.blk s H scope (compEnvC scope cl C X.env) fp) W0 e)) (hs : ∀ x, foldedSetIterable iter X.env x = pure x := by intro _; rfl) :
    PS X (.Assign [.Name y py] (.ListComp elt [⟨tg, iter, ifs, 0⟩] scope pos) spos) (RS X G W (sOwn i (dComp it (own.map (·.2)) t tt e))) :=
  ps_imp (ps_setLc (i := i) hc hN hy hyl hsw hi ok hg ht he hs) fun D σ H h => lc_go (Q := fun x H1 => gName i x σ H1 D.nx) (show RL X W (dComp it (own.map (·.2)) t tt e) σ H (fun x H1 => gName i x σ H1 D.nx) from own_go h)
theorem rs_setLc {it : DL} {t : Tg} {tt : DT} {e : DE} {i : Nat} {y : Str} {py : Pos} {elt tg iter : Expr} {ifs : List Expr} {scope : Scope} {own : List (Str × Nat)} {pos spos : Pos} (hc : X.calm = true) (hN : X.N.Nodup) (hy : X.N[i]? = some y) (hyl : X.env.scope.names.lookup y = some .local)
    (hsw : swapsWith (.ListComp elt [⟨tg, iter, ifs, 0⟩] scope pos) (some (.Name y py)) spos.line X.env = pure true) (hi : PI X tg iter (RIW X W it)) (ok : BlkOk X.N X.env.scope scope own)
    (hg : ∀ (s : Shared) (H : Hp) (C : Addr) (cl : List (Str × Addr)) (fp : List Addr), PG (X.blk s H scope (compEnvC scope cl C X.env) fp) tg (t.g X.kw)) (ht : ∀ (s : Shared) (H : Hp) (C : Addr) (cl : List (Str × Addr)) (fp : List Addr), PTs (X.blk s H scope (compEnvC scope cl C X.env) fp) ifs (RT (X.blk s H scope (compEnvC scope cl C X.env) fp) W0 tt))
    (he : ∀ (s : Shared) (H : Hp) (C : Addr) (cl : List (Str × Addr)) (fp : List Addr), PE (X.blk s H scope (compEnvC scope cl C X.env) fp) elt (RE (X.blk s H scope (compEnvC scope cl C X.env) fp) W0 e)) (hs : ∀ x, foldedSetIterable iter X.env x = pure x := by intro _; rfl) :
    PS X (.Assign [.Name y py] (.ListComp elt [⟨tg, iter, ifs, 0⟩] scope pos) spos) (RS X G W (sSet i (dLst (dComp it (own.map (·.2)) t tt e)))) :=
  ps_imp (ps_setLc (i := i) hc hN hy hyl hsw hi ok hg ht he hs) fun D σ H h => lc_go (Q := fun x H1 => gName i x σ H1 D.nx) (show RL X W (dComp it (own.map (·.2)) t tt e) σ H (fun x H1 => gName i x σ H1 D.nx) from rl_set_go h)
theorem rs_setLc2 {it it1 : DL} {t t1 : Tg} {tt tt1 : DT} {e : DE} {i : Nat} {y : Str} {py : Pos} {elt tg iter tg1 iter1 : Expr} {ifs ifs1 : List Expr} {scope : Scope} {own : List (Str × Nat)} {vs1 : List Nat} {pos spos : Pos} (hc : X.calm = true) (hN : X.N.Nodup) (hy : X.N[i]? = some y) (hyl : X.env.scope.names.lookup y = some .local)
    (hsw : swapsWith (.ListComp elt [⟨tg, iter, ifs, 0⟩, ⟨tg1, iter1, ifs1, 0⟩] scope pos) (some (.Name y py)) spos.line X.env = pure true) (hi : PI X tg iter (RIW X W it)) (ok : BlkOk X.N X.env.scope scope own) (hv : ∀ i ∈ vs1, i ∈ own.map (·.2))
    (hg : ∀ (s : Shared) (H : Hp) (C : Addr) (cl : List (Str × Addr)) (fp : List Addr), PG (X.blk s H scope (compEnvC scope cl C X.env) fp) tg (t.g X.kw)) (ht : ∀ (s : Shared) (H : Hp) (C : Addr) (cl : List (Str × Addr)) (fp : List Addr), PTs (X.blk s H scope (compEnvC scope cl C X.env) fp) ifs (RT (X.blk s H scope (compEnvC scope cl C X.env) fp) W0 tt))
    (hi1 : ∀ (s : Shared) (H : Hp) (C : Addr) (cl : List (Str × Addr)) (fp : List Addr), PI (X.blk s H scope (compEnvC scope cl C X.env) fp) tg1 iter1 (RI (X.blk s H scope (compEnvC scope cl C X.env) fp) W0 it1))
    (hg1 : ∀ (s : Shared) (H : Hp) (C : Addr) (cl : List (Str × Addr)) (fp : List Addr), PG (X.blk s H scope (compEnvC scope cl C X.env) fp) tg1 (t1.g X.kw)) (ht1 : ∀ (s : Shared) (H : Hp) (C : Addr) (cl : List (Str × Addr)) (fp : List Addr), PTs (X.blk s H scope (compEnvC scope cl C X.env) fp) ifs1 (RT (X.blk s H scope (compEnvC scope cl C X.env) fp) W0 tt1))
    (he : ∀ (s : Shared) (H : Hp) (C : Addr) (cl : List (Str × Addr)) (fp : List Addr), PE (X.blk s H scope (compEnvC scope cl C X.env) fp) elt (RE (X.blk s H scope (compEnvC scope cl C X.env) fp) W0 e)) (hs : ∀ x, foldedSetIterable iter X.env x = pure x := by intro _; rfl) (hs1 : ∀ env x, foldedSetIterable iter1 env x = pure x := by intro _ _; rfl) :
    PS X (.Assign [.Name y py] (.ListComp elt [⟨tg, iter, ifs, 0⟩, ⟨tg1, iter1, ifs1, 0⟩] scope pos) spos) (RS X G W (sSet i (dLst (dComp2 it (own.map (·.2)) t tt it1 vs1 t1 tt1 e)))) :=
  ps_imp (ps_setLc2 (i := i) hc hN hy hyl hsw hi ok hv hg ht hi1 hg1 ht1 he hs hs1) fun D σ H h => lc2_go (Q := fun x H1 => gName i x σ H1 D.nx) (show RL X W (dComp2 it (own.map (·.2)) t tt it1 vs1 t1 tt1 e) σ H (fun x H1 => gName i x σ H1 D.nx) from rl_set_go h)
/-! a, b = x, y -/
def sPar2 (i j : Nat) (a b : DE) : DS := fun ρ => lift (dCons a (dCons b dNil) ρ) ρ fun ds => match ds with
  | [x, y] => .ok (.nx ((ρ.set i (.dat x)).set j (.dat y)))
  | _ => stuck
def sPar3 (i j l : Nat) (a b c : DE) : DS := fun ρ => lift (dCons a (dCons b (dCons c dNil)) ρ) ρ fun ds => match ds with
  | [x, y, z] => .ok (.nx (((ρ.set i (.dat x)).set j (.dat y)).set l (.dat z)))
  | _ => stuck
theorem rs_par2 {i j : Nat} {x y : Str} {a b : Expr} {ca cb : DE} {px py pt pos : Pos} {kt k2 pt2} (hc : X.calm = true) (hN : X.N.Nodup) (hi : X.N[i]? = some x) (hj : X.N[j]? = some y) (hij : i ≠ j)
    (hx : X.env.scope.names.lookup x = some .local) (hy : X.env.scope.names.lookup y = some .local) (ha : PA X [a, b] (RA X W (dCons ca (dCons cb dNil))))
    (hw : swappedStores [.Tuple [.Name x px, .Name y py] kt pt] (.Tuple [a, b] k2 pt2) X.env = pure (some [x, y]) := by rfl)
    (hs : swapsWithSole [.Tuple [.Name x px, .Name y py] kt pt] (.Tuple [a, b] k2 pt2) pos.line X.env = pure false := by rfl) :
    PS X (.Assign [.Tuple [.Name x px, .Name y py] kt pt] (.Tuple [a, b] k2 pt2) pos) (RS X G W (sPar2 i j ca cb)) :=
  ps_imp (ps_par hc hN hi hj hij hx hy ha hw hs) fun D σ H ⟨ρ, O, g, p⟩ => ⟨H, ρ, O, g.e, OutR.lift g p fun ds _ p vs H' s r => by
    split at p
    · obtain ⟨v, w, rfl, r1, r2⟩ := reps2' r
      exact ⟨v, w, rfl, p _ H' O (Ext.same s) (((g.to s).set i r1).set j r2)⟩
    · exact p.elim⟩
theorem rs_par3 {i j l : Nat} {x y z : Str} {a b c : Expr} {ca cb cc : DE} {px py pz pt pos : Pos} {kt k2 pt2} (hc : X.calm = true) (hN : X.N.Nodup) (hi : X.N[i]? = some x) (hj : X.N[j]? = some y) (hl : X.N[l]? = some z) (hij : i ≠ j) (hil : i ≠ l) (hjl : j ≠ l)
    (hx : X.env.scope.names.lookup x = some .local) (hy : X.env.scope.names.lookup y = some .local) (hz : X.env.scope.names.lookup z = some .local) (ha : PA X [a, b, c] (RA X W (dCons ca (dCons cb (dCons cc dNil)))))
    (hw : swappedStores [.Tuple [.Name x px, .Name y py, .Name z pz] kt pt] (.Tuple [a, b, c] k2 pt2) X.env = pure (some [x, y, z]) := by rfl)
    (hs : swapsWithSole [.Tuple [.Name x px, .Name y py, .Name z pz] kt pt] (.Tuple [a, b, c] k2 pt2) pos.line X.env = pure false := by rfl) :
    PS X (.Assign [.Tuple [.Name x px, .Name y py, .Name z pz] kt pt] (.Tuple [a, b, c] k2 pt2) pos) (RS X G W (sPar3 i j l ca cb cc)) :=
  ps_imp (ps_par3 hc hN hi hj hl hij hil hjl hx hy hz ha hw hs) fun D σ H ⟨ρ, O, g, p⟩ => ⟨H, ρ, O, g.e, OutR.lift g p fun ds _ p vs H' s r => by
    split at p
    · cases r with
      | cons r1 r =>
        cases r with
        | cons r2 r =>
          cases r with
          | cons r3 r =>
            cases r
            exact ⟨_, _, _, rfl, p _ H' O (Ext.same s) ((((g.to s).set i r1).set j r2).set l r3)⟩
    · exact p.elim⟩
/-! what is never reached -/
def sStuck : DS := fun _ => stuck
theorem rss_stuck {ss : List Stmt} : PSs X ss (RS X G W sStuck) := ⟨fun pins s σ H D I ⟨ρ, O, g, p⟩ => p.elim⟩
theorem rs_stuck {st : Stmt} : PS X st (RS X G W sStuck) := ⟨fun pins s σ H D I ⟨ρ, O, g, p⟩ => p.elim⟩
def dStuck : DE := fun _ => stuck
theorem re_stuck {e : Expr} : PE X e (RE X W dStuck) := ⟨fun pins s σ H Q I ⟨Hb, ρ, O, g, p⟩ => p.elim⟩
/-! list(range(..)), tuple(range(..)) -/
def dRange1 (a : DE) : EnvD → Rs (Int × Int) := fun ρ => a ρ >>= fun x => match x with
  | .int n => .ok (0, n)
  | _ => stuck
def dRange2 (a b : DE) : EnvD → Rs (Int × Int) := fun ρ => a ρ >>= fun x => b ρ >>= fun y => match x, y with
  | .int m, .int n => .ok (m, n)
  | _, _ => stuck
def rgOk (a b : Int) : Bool := decide (-(2 ^ 62) ≤ a ∧ a < 2 ^ 62 ∧ -(2 ^ 62) ≤ b ∧ b < 2 ^ 62 ∧ (b - a).toNat ≤ 2 ^ 24)
def dLstRg (r : EnvD → Rs (Int × Int)) : DL := fun ρ => r ρ >>= fun p => if rgOk p.1 p.2 then .ok (rngL p.1 p.2) else stuck
def dTupRg (r : EnvD → Rs (Int × Int)) : DE := fun ρ => r ρ >>= fun p => if rgOk p.1 p.2 then .ok (.tuple (rngL p.1 p.2)) else stuck
def RRg (X : Cx) (W : WX) (c : EnvD → Rs (Int × Int)) : St → Hp → (Int → Int → Hp → Prop) → Prop := fun σ H Q => ∃ Hb ρ O, GoodE X.kw Hb O ρ σ H ∧ Post X W O σ H (c ρ) fun p => ∀ H', Same H H' → Q p.1 p.2 H'
theorem prg_imp {e : Expr} {t t' : St → Hp → (Int → Int → Hp → Prop) → Prop} (h : PRg X e t) (i : ∀ σ H Q, t' σ H Q → t σ H Q) : PRg X e t' := fun pins s σ H Q I q => h pins s σ H Q I (i σ H Q q)
theorem rr_1 {a : Expr} {ca : DE} {p pos : Pos} (hg : Gl X "range") (hm : X.mg "range" = none) (ha : PE X a (RE X W ca)) (na : starEach [a] X.env = (false, eval a X.env) :: starEach [] X.env := by rfl) : PRg X (.Call (.Name "range" p) [a] [] pos) (RRg X W (dRange1 ca)) :=
  prg_imp (prg_1 hg hm ha na) fun σ H Q ⟨Hb, ρ, O, g, p⟩ => RE.go' g p fun d v H1 g1 s1 r1 p1 => by
    cases r1 with
    | int n => exact ⟨n, rfl, p1 H1 s1⟩
    | _ => exact False.elim p1
theorem rr_2 {a b : Expr} {ca cb : DE} {p pos : Pos} (hg : Gl X "range") (hm : X.mg "range" = none) (ha : PE X a (RE X W ca)) (hb : PE X b (RE X W cb)) (na : starEach [a, b] X.env = (false, eval a X.env) :: starEach [b] X.env := by rfl)
    (nb : starEach [b] X.env = (false, eval b X.env) :: starEach [] X.env := by rfl) (hp : (backTo pos (starEach [b] X.env)).any (·.1) = false := by rfl) : PRg X (.Call (.Name "range" p) [a, b] [] pos) (RRg X W (dRange2 ca cb)) :=
  prg_imp (prg_2 hg hm ha hb na nb hp) fun σ H Q ⟨Hb, ρ, O, g, p⟩ => RE.go' g p fun d v H1 g1 s1 r1 p1 => RE.go' g1 p1 fun e u H2 g2 s2 r2 p2 => by
    cases r1 with
    | int m =>
      cases r2 with
      | int n => exact ⟨m, n, rfl, rfl, p2 H2 (s1.trans s2)⟩
      | _ => exact False.elim p2
    | _ => exact False.elim p2
theorem rgV_rep {K : Kw} {H : Hp} {O : Addr → Prop} (a b : Int) : Reps K H O (rgV a b) (rngL a b) := by
  have : ∀ is : List Nat, Reps K H O (is.map fun (i : Nat) => V.int (a + i)) (is.map fun (i : Nat) => PyData.int (a + i)) := by
    intro is
    induction is with
    | nil => exact .nil
    | cons i is ih => exact .cons (.int _) ih
  exact this _
theorem rl_listRg {e : Expr} {c : EnvD → Rs (Int × Int)} {p pos : Pos} (hc : X.calm = true) (hg : Gl X "list") (hm : X.mg "list" = none) (he : PRg X e (RRg X W c)) (na : starEach [e] X.env = (false, eval e X.env) :: starEach [] X.env := by rfl) : PE X (.Call (.Name "list" p) [e] [] pos) (RL X W (dLstRg c)) :=
  pe_imp (pe_listRg hc hg hm he na) fun σ H Q ⟨Hb, ρ, O, g, p⟩ => ⟨Hb, ρ, O, g, p.bind.imp fun ab _ p H' s => by
    split at p
    · rename_i h
      have h := of_decide_eq_true h
      refine ⟨h, fun q hq => p q _ _ (s.trans (same_upd hq)) (s.free hq) upd_same (rgV_rep _ _)⟩
    · exact p.elim⟩
theorem re_tupRg {e : Expr} {c : EnvD → Rs (Int × Int)} {p pos : Pos} (hc : X.calm = true) (hg : Gl X "tuple") (hm : X.mg "tuple" = none) (he : PRg X e (RRg X W c)) (na : starEach [e] X.env = (false, eval e X.env) :: starEach [] X.env := by rfl) : PE X (.Call (.Name "tuple" p) [e] [] pos) (RE X W (dTupRg c)) :=
  pe_imp (pe_tupRg hc hg hm he na) fun σ H Q ⟨Hb, ρ, O, g, p⟩ => ⟨Hb, ρ, O, g, p.bind.imp fun ab _ p H' s => by
    split at p
    · rename_i h
      have h := of_decide_eq_true h
      refine ⟨h, fun q hq => p _ _ (s.trans (same_upd hq)) (.tup (.inl ⟨.inl upd_same, no_own (fun a ha => ?_) hq⟩) (RepAll.iff.mpr (rgV_rep _ _)))⟩
      obtain ⟨o, e⟩ := g.dom a ha
      exact ⟨o, s a o e⟩
    · exact p.elim⟩
end
/-! ### the law -/
def spLaw (K : PySem.W.Frag) : Sp := fun vs H Q _ => ∃ (a : Addr) (ns : List Int), vs = [.ref a] ∧ SqL K H a (ns.map V.int) ∧ ns.length ≤ 63 ∧ ∀ H', Q (.bl true) H'
theorem law_imp {K : PySem.W.Frag} {w : World} {mg : Str → Option Value} {f : List PyData → Rs PyData} (h : ∀ ns : List Int, ns.length ≤ 63 → f [.list (ns.map .int)] = .ok (.bool true)) : ∀ vs H Q E, spLaw K vs H Q E → spD (K, w) mg [true] f vs H Q E := by
  rintro vs H Q E ⟨a, ns, rfl, hs, hl, q⟩
  refine ⟨fun _ => False, [.list (ns.map .int)], fun _ h => h.elim, .cons (show RepB (K, w) H _ _ _ from .inr (.inl ⟨a, _, _, rfl, rfl, hs, pr_ints ns⟩)) .nil, ?_⟩
  rw [h ns hl]
  intro v H' s r
  cases r
  exact q H'
theorem kit_ref {K : PySem.W.Frag} {C D : Addr} {b : Bool} (hd : PySem.W.hasDictIn K D = true) (ht : PySem.W.typeIn K (.ref D) = some (.type "type")) (hs : PySem.W.subIn K (.ref D) (.ref D) = some true) (h : PySem.W.subIn K (.ref C) (.ref D) = some b) : PySem.W.kitOne K (.ref C) (.ref D) = some b := by
  unfold PySem.W.kitOne
  by_cases e : C = D
  · subst e
    rw [hs] at h
    cases h
    rw [if_pos (by simp)]
  · rw [if_neg (by simpa using e)]
    obtain ⟨cd, hc, _⟩ := PySem.W.any_some hd
    show (if ((PySem.W.clsIn K D).isSome && PySem.W.typeIn K (.ref D) == some (.type "type")) = true then PySem.W.subIn K (.ref C) (.ref D) else none) = some b
    rw [if_pos (by rw [hc, ht]; rfl)]
    exact h
theorem cx_never {P : Program} {w : World} {H : Hp} {s : Shared} {e : Value} {s' : Shared} (h : L2.CX P w [] H s (fun _ _ _ => False) e s') : False := by
  obtain ⟨_, _, _, _, _, _, _, _, _, _, _, _, z⟩ := h
  exact z
end Den

set_option Elab.async false
set_option linter.all false
set_option maxRecDepth 100000
set_option maxHeartbeats 4000000
namespace Den
open PySem PySem.Spec PyProof.Rows L2
open PySem.Sem (wp)

/-! ### enumerate of a list, of a tuple, of a text -/
set_option maxHeartbeats 1000000 in
theorem meets_enumNew {v : Value} {o : Obj} {H : Heap → Prop} (B : Begins v o H) :
    Meets (Builtin.«enumerate.__new__» ⟨[.type "enumerate", v], []⟩) (fun _ R s => H s.heap ∧
      R (.ok (.ret (.ref (s.heap.push o).objs.size))) { s with heap := (s.heap.push o).push { cls := .type "enumerate", data := .fields #[.none, .bool false, .ref s.heap.objs.size, rawInt 0, .none, .none] } }) :=
  .of_wp fun prog w A R s h => by
    obtain ⟨hp, g, d, tk, os⟩ := s; obtain ⟨h1, h⟩ := h
    have hsub := sub_enumerate
    have q1 : ∀ {A' : Around} {E : Value → Shared → Prop} {Q : Value → Shared → Prop}, Q (.ref hp.objs.size) ⟨hp.push o, g, d, tk, os⟩ → wpAny (model prog w) A' (pyIter v) Q E ⟨hp, g, d, tk, os⟩ :=
      fun q => B.iter prog w _ _ ⟨hp, g, d, tk, os⟩ _ h1 q
    wp_walk using q1
    refine wpAny_stack_any fun st => wpAny_pure ?_
    split
    · rename_i c _ _ _ _ _
      cases (c == Value.type "enumerate")
      · wp_walk using q1
        exact ⟨_, rfl, h⟩
      · wp_walk using q1
        exact ⟨_, rfl, h⟩
    · wp_walk using q1
      exact ⟨_, rfl, h⟩
section
variable {prog : Program} {w : World} {A : Around} {E : Value → Shared → Prop} {s : Shared}
theorem call_enum {v : Value} {o : Obj} {H : Heap → Prop} {Q : Value → Shared → Prop} (B : Begins v o H) (h1 : H s.heap)
    (h : ∀ h', IsEnum h' (s.heap.objs.size + 1) s.heap.objs.size 0 .none → h'.get? s.heap.objs.size = some o → h'.objs.size = s.heap.objs.size + 2 →
      (∀ b o, s.heap.get? b = some o → h'.get? b = some o) → Q (.ref (s.heap.objs.size + 1)) { s with heap := h' }) :
    wpAny (model prog w) A (call (.type "enumerate") [v]) Q E s := by
  refine callType_new F.called_enumerate (by decide) (F.typeCall_enumerate_1 _) (F.newCall_enumerate_1 _) (fun obj => F.args_object_init_2 obj _) F.entry_enumerate_new
    (meets_enumNew B) ⟨h1, ?_⟩
  have hz : (s.heap.push o).objs.size = s.heap.objs.size + 1 := Heap.size_push ..
  show _ ∧ _
  rw [hz]
  have he : IsEnum ((s.heap.push o).push { cls := .type "enumerate", data := .fields #[.none, .bool false, .ref s.heap.objs.size, rawInt 0, .none, .none] }) (s.heap.objs.size + 1) s.heap.objs.size 0 .none := by
    have := Heap.get?_push_size (s.heap.push o) (o := { cls := .type "enumerate", data := .fields #[.none, .bool false, .ref s.heap.objs.size, rawInt 0, .none, .none] }) rfl
    rw [hz] at this; exact this
  refine ⟨⟨_, he, rfl⟩, h _ he (Heap.get?_push_of_some _ (Heap.get?_push_size _ B.free)) (by rw [Heap.size_push, hz]) fun b o x => Heap.get?_push_of_some _ (Heap.get?_push_of_some _ x)⟩
end
/-- the items that G tells, each in a new pair -/
def Ieg (G : Hp → List V → Prop) : It :=
  ⟨fun i H => ∃ (xs : List V) (x : V), G H xs ∧ xs[i]? = some x, fun i H v H' => ∃ T x, v = .ref T ∧ H T = none ∧ H' = upd H T (.tup [.int (i : Nat), x]) ∧ ∀ xs, G H xs → xs[i]? = some x, fun i H => ∃ xs : List V, G H xs ∧ xs.length = i⟩
theorem turn_enumT {P : Program} {w : World} {K : PySem.W.Frag} {elts : List Expr} {kk : Nat} {tpos : Pos} (a e it : Addr) :
    Turn P w K (.Tuple elts kk tpos) (Ieg fun H xs => SqT K H a xs) [e, it] e (fun i h => (∃ old, IsEnum h e it ((i : Nat) : Int) old) ∧ h.IsTupleIter it a i ∧ e ≠ it ∧ e ≠ a ∧ a ≠ it) where
  mem := by simp
  obj := fun i h st b hb => by
    obtain ⟨⟨old, he⟩, ⟨o, ho, hc, hd⟩, _⟩ := st
    have e' : b = e ∨ b = it := by simpa using hb
    rcases e' with z | z
    · rw [z]; exact ⟨_, he, fun v q => nomatch q⟩
    · rw [z]; exact ⟨o, ho, fun v q => by rw [hd] at q; cases q⟩
  keep := fun i h h' st k => let ⟨⟨old, he⟩, hi, hne⟩ := st; ⟨⟨old, k e (by simp) _ he⟩, hi.at fun o q => k it (by simp) o q, hne⟩
  item := by
    intro X hP hw hK hc i pins s σ H E I hf st hg
    subst hP hw hK
    obtain ⟨⟨old, he⟩, hit, hne, hea, hai⟩ := st
    obtain ⟨xs, x, hq, hx⟩ := hg
    obtain ⟨its, rv, p, hz⟩ := I.tuple hq
    obtain ⟨u, hu, ru⟩ := rv.get hx
    have hel : e < s.heap.objs.size := Heap.lt_size he
    have hil : it < s.heap.objs.size := by obtain ⟨_, q, _⟩ := hit; exact Heap.lt_size q
    have hlt : i < its.toArray.size := by
      obtain ⟨q, _⟩ := List.getElem?_eq_some_iff.mp hu
      simpa using q
    refine wpAny_pyNext_enum_itemD (Draws.tuple (show X.A.in1.handled = none from I.ok.hd hc) it a hai its.toArray) he ⟨hit, p⟩ hlt hne (by simp [hne, hea]) fun x' h' tk hP ho hit' hT hsz hk => ?_
    have eu : x' = u := by
      rw [List.getElem?_toArray, hu] at hP
      exact (Option.some.inj hP).symm
    subst eu
    refine ⟨_, rfl, wpAny_letOwnedTupleGo_enum (s := { s with heap := h', toks := tk + 1 }) ho fun h'' he' sb => ?_⟩
    have hT2 : h''.get? s.heap.objs.size = some { cls := .type "tuple", data := .seq #[.int i tk, x'] } := (sb.2 _ (Nat.ne_of_gt hel)).trans hT
    have new : ObjOk X.prog X.w (upd H s.heap.objs.size (.tup [.int (i : Nat), x])) h'' s.heap.objs.size (.tup [.int (i : Nat), x]) :=
      ⟨by show 2 ≤ sizeLine; decide, [.int i tk, x'], .cons ⟨_, rfl⟩ (.cons ru .nil), ⟨_, hT2, rfl, _, rfl⟩⟩
    have I1 : Inv X pins σ (upd H s.heap.objs.size (.tup [.int (i : Nat), x])) { s with heap := h'', toks := tk + 1 } :=
      I.turnedNew (ch := [e, it]) (fun b ob hb q => (sb.2 b (fun z => hb (by simp [z]))).trans (hk b ob (fun z => hb (by simp [z])) (fun z => hb (by simp [z])) q)) hf (Nat.le_refl _) new
    refine ⟨.ref s.heap.objs.size, _, I1, rfl, ⟨_, x, rfl, I.hok.fresh (Nat.le_refl _), rfl, fun ys hy => by rw [I.tuple_inj hy hq]; exact hx⟩, ⟨⟨x', ?_⟩, hit'.1.at fun o q => (sb.2 it (Ne.symm hne)).trans q, hne, hea, hai⟩, fun b hb => ?_⟩
    · have e1 : ((i + 1 : Nat) : Int) = (i : Int) + 1 := by omega
      rw [e1]; exact he'
    · have hb' : b < s.heap.objs.size := by
        have e' : b = e ∨ b = it := by simpa using hb
        rcases e' with z | z
        · rw [z]; exact hel
        · rw [z]; exact hil
      rw [upd_ne (Nat.ne_of_lt hb')]
      exact (hf b hb).1
  done := by
    intro X hP hw hK hc i pins s σ H E I hf st hg
    subst hP hw hK
    obtain ⟨⟨old, he⟩, hit, hne, hea, hai⟩ := st
    obtain ⟨xs, hq, hx⟩ := hg
    obtain ⟨its, rv, p, hz⟩ := I.tuple hq
    obtain ⟨f0, f1, f2, f3, f4, f5⟩ := hf it (by simp)
    have hl := rv.length
    have ei : i = its.toArray.size := by simp; omega
    subst ei
    have D := Draws.tuple (prog := X.prog) (w := X.w) (show X.A.in1.handled = none from I.ok.hd hc) it a hai its.toArray
    exact wpAny_pyNext_enum_endD D he ⟨hit, p⟩ fun h' eb => ⟨rfl, I.turned (t' := s.toks) (fun b o hb q => eb b o hb q) f0 f1 f3 f4 f5⟩
  self := fun A i s Q E st h => let ⟨⟨_, he⟩, _⟩ := st; wpAny_pyIter_enum he h

theorem turn_enumS {P : Program} {w : World} {K : PySem.W.Frag} {elts : List Expr} {kk : Nat} {tpos : Pos} (x : Str) (t : Tok) (e it : Addr) :
    Turn P w K (.Tuple elts kk tpos) (Ieg fun H xs => xs = x.cps.toList.map fun c => .str ⟨#[c]⟩) [e, it] e (fun i h => (∃ old, IsEnum h e it ((i : Nat) : Int) old) ∧ h.IsStrIter it (strIterType x) x t i ∧ e ≠ it) where
  mem := by simp
  obj := fun i h st b hb => by
    obtain ⟨⟨old, he⟩, ⟨o, ho, hc, hd⟩, _⟩ := st
    have e' : b = e ∨ b = it := by simpa using hb
    rcases e' with z | z
    · rw [z]; exact ⟨_, he, fun v q => nomatch q⟩
    · rw [z]; exact ⟨o, ho, fun v q => by rw [hd] at q; cases q⟩
  keep := fun i h h' st k => let ⟨⟨old, he⟩, ⟨o, ho, r⟩, hne⟩ := st; ⟨⟨old, k e (by simp) _ he⟩, ⟨o, k it (by simp) o ho, r⟩, hne⟩
  item := by
    intro X hP hw hK hc i pins s σ H E I hf st hg
    subst hP hw hK
    obtain ⟨⟨old, he⟩, hit, hne⟩ := st
    obtain ⟨xs, v, rfl, hx⟩ := hg
    have hel : e < s.heap.objs.size := Heap.lt_size he
    have hil : it < s.heap.objs.size := by obtain ⟨_, q, _⟩ := hit; exact Heap.lt_size q
    rw [List.getElem?_map, Option.map_eq_some_iff] at hx
    obtain ⟨c, hcx, rfl⟩ := hx
    have hlt : i < x.cps.size := by
      obtain ⟨q, _⟩ := List.getElem?_eq_some_iff.mp hcx
      simpa using q
    refine wpAny_pyNext_enum_itemD (Draws.text (show X.A.in1.handled = none from I.ok.hd hc) it x t) he hit hlt hne (by simp [hne]) fun x' h' tk hP ho hit' hT hsz hk => ?_
    obtain ⟨c', u, hc', rfl⟩ := hP
    rw [Array.getElem?_toList, hc'] at hcx
    have ec : c' = c := Option.some.inj hcx
    subst ec
    refine ⟨_, rfl, wpAny_letOwnedTupleGo_enum (s := { s with heap := h', toks := tk + 1 }) ho fun h'' he' sb => ?_⟩
    have hT2 : h''.get? s.heap.objs.size = some { cls := .type "tuple", data := .seq #[.int i tk, .str ⟨#[c']⟩ u] } := (sb.2 _ (Nat.ne_of_gt hel)).trans hT
    have new : ObjOk X.prog X.w (upd H s.heap.objs.size (.tup [.int (i : Nat), .str ⟨#[c']⟩])) h'' s.heap.objs.size (.tup [.int (i : Nat), .str ⟨#[c']⟩]) :=
      ⟨by show 2 ≤ sizeLine; decide, [.int i tk, .str ⟨#[c']⟩ u], .cons ⟨_, rfl⟩ (.cons ⟨_, rfl⟩ .nil), ⟨_, hT2, rfl, _, rfl⟩⟩
    have I1 : Inv X pins σ (upd H s.heap.objs.size (.tup [.int (i : Nat), .str ⟨#[c']⟩])) { s with heap := h'', toks := tk + 1 } :=
      I.turnedNew (ch := [e, it]) (fun b ob hb q => (sb.2 b (fun z => hb (by simp [z]))).trans (hk b ob (fun z => hb (by simp [z])) (fun z => hb (by simp [z])) q)) hf (Nat.le_refl _) new
    refine ⟨.ref s.heap.objs.size, _, I1, rfl, ⟨_, .str ⟨#[c']⟩, rfl, I.hok.fresh (Nat.le_refl _), rfl, fun ys hy => by rw [hy, List.getElem?_map, Array.getElem?_toList, hc']; rfl⟩, ⟨⟨.str ⟨#[c']⟩ u, ?_⟩, ?_, hne⟩, fun b hb => ?_⟩
    · have e1 : ((i + 1 : Nat) : Int) = (i : Int) + 1 := by omega
      rw [e1]; exact he'
    · obtain ⟨o, ho, r⟩ := hit'
      exact ⟨o, (sb.2 it (Ne.symm hne)).trans ho, r⟩
    · have hb' : b < s.heap.objs.size := by
        have e' : b = e ∨ b = it := by simpa using hb
        rcases e' with z | z
        · rw [z]; exact hel
        · rw [z]; exact hil
      rw [upd_ne (Nat.ne_of_lt hb')]
      exact (hf b hb).1
  done := by
    intro X hP hw hK hc i pins s σ H E I hf st hg
    subst hP hw hK
    obtain ⟨⟨old, he⟩, hit, hne⟩ := st
    obtain ⟨xs, rfl, hx⟩ := hg
    obtain ⟨f0, f1, f2, f3, f4, f5⟩ := hf it (by simp)
    have ei : i = x.cps.size := by simpa using hx.symm
    subst ei
    have D := Draws.text (prog := X.prog) (w := X.w) (show X.A.in1.handled = none from I.ok.hd hc) it x t
    exact wpAny_pyNext_enum_endD D he hit fun h' eb => ⟨rfl, I.turned (t' := s.toks) (fun b o hb q => eb b o hb q) f0 f1 f3 f4 f5⟩
  self := fun A i s Q E st h => let ⟨⟨_, he⟩, _⟩ := st; wpAny_pyIter_enum he h
def iEnumA (K : PySem.W.Frag) (ta : TA) : TI := fun σ H R => ta σ H fun vs H1 =>
  (∃ a xs, vs = [.ref a] ∧ SqT K H1 a xs ∧ R (Ieg fun H xs => SqT K H a xs) H1) ∨ (∃ x : Str, vs = [.str x] ∧ R (Ieg fun H xs => xs = x.cps.toList.map fun c => .str ⟨#[c]⟩) H1) ∨ (∃ a xs, vs = [.ref a] ∧ SqL K H1 a xs ∧ R (Ite K a) H1)
theorem pi_enumA {X : Cx} {e : Expr} {ta : TA} {p pos tpos : Pos} {elts : List Expr} {kk : Nat} (hg : Gl X "enumerate") (hm : X.mg "enumerate" = none) (ha : PA X [e] ta) (hs : starEach [e] X.env = [(false, eval e X.env)] := by rfl) :
    PI X (.Tuple elts kk tpos) (.Call (.Name "enumerate" p) [e] [] pos) (iEnumA X.K ta) := by
  refine ⟨fun pins s σ H R I h => ?_⟩
  refine Call_ (ld_blt I hg hm boot_enumerate (PyProof.Rows.callWith_type1 (thn (ha.run pos pins s σ H _ I h) fun us s1 ⟨vs, H1, I1, r1, q1⟩ => ?_) hs rfl))
  have fresh : ∀ b, b ∈ [s1.heap.objs.size + 1, s1.heap.objs.size] → FpOk X pins H1 b := fun b hb => by
    have e' : b = s1.heap.objs.size + 1 ∨ b = s1.heap.objs.size := by simpa using hb
    have hle : s1.heap.objs.size ≤ b := by
      rcases e' with z | z
      · rw [z]; exact Nat.le_add_right _ _
      · rw [z]; exact Nat.le_refl _
    exact I1.fpOk hle (I1.hok.fresh hle)
  rcases q1 with ⟨a, xs, ex, hq, q⟩ | ⟨x, ex, q⟩ | ⟨a, xs, ex, hq, q⟩
  · subst ex
    cases r1 with
    | cons r rr =>
      cases rr
      cases r
      obtain ⟨its, rv, p', hz⟩ := I1.tuple hq
      have hal : a < s1.heap.objs.size := by
        have p2 : s1.heap.IsTuple a its.toArray := p'
        obtain ⟨_, q, _⟩ := p2
        exact Heap.lt_size q
      refine call_enum (begins_tuple a its.toArray) p' fun h' he hit hsz hk => wpAny_pyIter_enum he ?_
      have I2 : Inv X pins σ H1 { s1 with heap := h' } := I1.kept (t' := s1.toks) hk
      exact ⟨s1.heap.objs.size + 1, [s1.heap.objs.size + 1, s1.heap.objs.size], _, _, H1, rfl, I2, turn_enumT a (s1.heap.objs.size + 1) s1.heap.objs.size, ⟨⟨.none, he⟩, ⟨_, hit, rfl, rfl⟩, Nat.succ_ne_self _, Nat.ne_of_gt (Nat.lt_succ_of_lt hal), Nat.ne_of_lt hal⟩, fresh, q⟩
  · subst ex
    cases r1 with
    | cons r rr =>
      cases rr
      obtain ⟨t, rfl⟩ := r
      refine call_enum (begins_text x t) trivial fun h' he hit hsz hk => wpAny_pyIter_enum he ?_
      have I2 : Inv X pins σ H1 { s1 with heap := h' } := I1.kept (t' := s1.toks) hk
      exact ⟨s1.heap.objs.size + 1, [s1.heap.objs.size + 1, s1.heap.objs.size], _, _, H1, rfl, I2, turn_enumS x t (s1.heap.objs.size + 1) s1.heap.objs.size, ⟨⟨.none, he⟩, ⟨_, hit, rfl, rfl⟩, Nat.succ_ne_self _⟩, fresh, q⟩
  · subst ex
    cases r1 with
    | cons r rr =>
      cases rr
      cases r
      obtain ⟨its, rv, p', hz⟩ := I1.list hq
      refine call_enumerate_list p'.isList fun h' he hit hsz hk => wpAny_pyIter_enum he ?_
      have I2 : Inv X pins σ H1 { s1 with heap := h' } := I1.kept (t' := s1.toks) hk
      exact ⟨s1.heap.objs.size + 1, [s1.heap.objs.size + 1, s1.heap.objs.size], _, _, H1, rfl, I2, turn_enum a (s1.heap.objs.size + 1) s1.heap.objs.size, ⟨⟨.none, he⟩, hit, Nat.succ_ne_self _⟩, fresh, q⟩

def enumP (ds : List PyData) : List PyData := (List.range ds.length).zipWith (fun i d => .tuple [.int (i : Nat), d]) ds
def enumD : List PyData → Rs (List PyData)
  | [d] => (itemsD d).map enumP
  | _ => stuck
theorem enumP_len (ds : List PyData) : (enumP ds).length = ds.length := by
  unfold enumP
  rw [List.length_zipWith, List.length_range, Nat.min_self]
theorem enumP_at {ds : List PyData} {i : Nat} {d : PyData} (h : (enumP ds)[i]? = some d) : ∃ a, ds[i]? = some a ∧ d = .tuple [.int (i : Nat), a] := by
  unfold enumP at h
  rw [List.getElem?_zipWith] at h
  cases hd : ds[i]? with
  | none =>
    rw [hd] at h
    cases hr : (List.range ds.length)[i]? <;> rw [hr] at h <;> cases h
  | some a =>
    obtain ⟨hi, _⟩ := List.getElem?_eq_some_iff.mp hd
    rw [hd, List.getElem?_range hi] at h
    cases h
    exact ⟨a, rfl, rfl⟩
theorem one_new {K : Kw} {H : Hp} {O : Addr → Prop} {T : Addr} {x : V} {i : Nat} {a : PyData} (ok : OkO O H) (hT : H T = none) (ra : Rep K H O x a) : Same H (upd H T (.tup [.int (i : Nat), x])) ∧ Rep K (upd H T (.tup [.int (i : Nat), x])) O (.ref T) (.tuple [.int (i : Nat), a]) :=
  pair_new ok hT (.int _) ra
theorem src_enumL {K : Kw} {a : Addr} {xs : List V} {ds : List PyData} {P : Hp → (Addr → Prop) → Prop} (h : ∀ H O, P H O → SqL K.1 H a xs ∧ Reps K H O xs ds) : Src K (Ite K.1 a) P (enumP ds) where
  goes := fun i H O hi p => by
    obtain ⟨q, r⟩ := h H O p
    rw [enumP_len] at hi
    have l : i < xs.length := by rw [r.length]; exact hi
    exact ⟨xs, xs[i], q, List.getElem?_eq_getElem l⟩
  stops := fun H O p => by
    obtain ⟨q, r⟩ := h H O p
    refine ⟨xs, q, ?_⟩
    rw [enumP_len, r.length]
    exact Nat.le_refl _
  yields := fun i H O v H' d hd p ok hy => by
    obtain ⟨q, r⟩ := h H O p
    obtain ⟨T, x, rfl, hT, rfl, h1⟩ := hy
    obtain ⟨da, e1, rfl⟩ := enumP_at hd
    obtain ⟨x', ex, rx⟩ := pr_get r e1
    have := h1 xs q
    rw [ex] at this; cases this
    exact one_new ok hT rx
theorem src_enumG {K : Kw} {G : Hp → List V → Prop} {xs : List V} {ds : List PyData} {P : Hp → (Addr → Prop) → Prop} (h : ∀ H O, P H O → G H xs ∧ Reps K H O xs ds) : Src K (Ieg G) P (enumP ds) where
  goes := fun i H O hi p => by
    obtain ⟨q, r⟩ := h H O p
    rw [enumP_len] at hi
    have l : i < xs.length := by rw [r.length]; exact hi
    exact ⟨xs, xs[i], q, List.getElem?_eq_getElem l⟩
  stops := fun H O p => by
    obtain ⟨q, r⟩ := h H O p
    refine ⟨xs, q, ?_⟩
    rw [enumP_len, r.length]
  yields := fun i H O v H' d hd p ok hy => by
    obtain ⟨q, r⟩ := h H O p
    obtain ⟨T, x, rfl, hT, rfl, h1⟩ := hy
    obtain ⟨da, e1, rfl⟩ := enumP_at hd
    obtain ⟨x', ex, rx⟩ := pr_get r e1
    have := h1 xs q
    rw [ex] at this; cases this
    exact one_new ok hT rx
theorem reps_chars {K : Kw} {H : Hp} {O : Addr → Prop} : ∀ cs : List Nat, Reps K H O (cs.map fun c => V.str ⟨#[c]⟩) (cs.map fun c => PyData.str ⟨#[c]⟩)
  | [] => .nil
  | c :: cs => .cons (.str _) (reps_chars cs)
theorem reps_one {K : Kw} {H : Hp} {O : Addr → Prop} {vs : List V} {d : PyData} (h : Paired (Rep K H O) vs [d]) : ∃ v, vs = [v] ∧ Rep K H O v d := by
  cases h with
  | cons a b => cases b; exact ⟨_, rfl, a⟩
section
variable {X : Cx} {W : WX} {e : Expr} {p pos tpos : Pos} {elts : List Expr} {kk : Nat} {cs : DL}
theorem ri_enum (hg : Gl X "enumerate") (hm : X.mg "enumerate" = none) (ha : PA X [e] (RA X W cs)) (hs : starEach [e] X.env = [(false, eval e X.env)] := by rfl) :
    PI X (.Tuple elts kk tpos) (.Call (.Name "enumerate" p) [e] [] pos) (RI X W (dCallL enumD cs)) :=
  pi_imp (pi_enumA hg hm ha hs) fun σ H R ⟨Hb, ρ, O, g, q⟩ => RA.go g q fun ds vs H1 g1 s1 r1 p1 => by
    unfold enumD at p1
    split at p1
    · rename_i d
      obtain ⟨v, rfl, r⟩ := reps_one r1
      cases d with
      | list ds =>
        cases r with
        | @lst a xs _ h r =>
          exact .inr (.inr ⟨a, xs, rfl, h.sql, p1 _ (fun H' O' => LAt H' O' a xs ∧ Reps X.kw H' O' xs ds) H1 s1 (src_enumL fun H' O' z => ⟨z.1.sql, z.2⟩) (fun H O H' O' e z => ⟨z.1.ext e, z.2.ext e⟩) ⟨h, RepAll.iff.mp r⟩⟩)
      | tuple ds =>
        cases r with
        | @tup a xs _ h r =>
          exact .inl ⟨a, xs, rfl, h.sqt, p1 _ (fun H' O' => TAt X.kw H' O' a xs ∧ Reps X.kw H' O' xs ds) H1 s1 (src_enumG fun H' O' z => ⟨z.1.sqt, z.2⟩) (fun H O H' O' e z => ⟨z.1.ext e, z.2.ext e⟩) ⟨h, RepAll.iff.mp r⟩⟩
      | str x =>
        cases r
        exact .inr (.inl ⟨x, rfl, p1 _ (fun _ _ => True) H1 s1 (src_enumG fun H' O' z => ⟨rfl, reps_chars _⟩) firm_true trivial⟩)
      | _ => exact False.elim p1
    · exact p1.elim
end
end Den

set_option Elab.async false
set_option linter.all false
set_option maxRecDepth 100000
set_option maxHeartbeats 4000000
namespace Den
open PySem PySem.Spec PyProof.Rows L2

/-! ### a module's constants that are tuples -/
theorem re_globT {X : Cx} {W : WX} {x : Str} {d : PyData} {pos : Pos} (hg : Gl X x) (h : ∃ a, X.mg x = some (.ref a) ∧ KRep X.kw (.ref a) d) (hd : (x == ("__debug__" : Str)) = false := by decide) : PE X (.Name x pos) (RE X W (dLit d)) := by
  obtain ⟨a, h, k⟩ := h
  exact re_glob hg h (v := .ref a) rfl k hd
theorem kr_tup {K : Kw} {a : Addr} {o : Obj} {its : Array Value} {n : Nat} {vs : List V} {ds : List PyData} (h : K.1.lookup a = some o) (hc : o.cls = .type "tuple") (hd : o.data = .seq its n) (hs : its.size ≤ sizeLine) (hv : Vals vs its.toList) (r : Paired (KRep K) vs ds) : KRep K (.ref a) (.tuple ds) :=
  fun H O => .tup (.inr ⟨o, its, n, h, hc, hd, hs, hv⟩) (RepAll.iff.mpr (Paired.mono (fun _ _ q => q H O) r))

/-! ### keys -/
mutual
theorem nested_of {h : Heap} : ∀ (d : PyData) (v : Value) (as : List Addr), Reads h v d as → keyB d = true → NestedIs h (toK d) v
  | .none, _, _, r, _ => by cases r; exact .none
  | .bool _, _, _, _, k => by cases k
  | .int i, _, _, r, _ => by cases r; exact .int _ _
  | .str x, _, _, r, _ => by cases r; exact .text _ _
  | .list _, _, _, _, k => by cases k
  | .dict _, _, _, _, k => by cases k
  | .tuple ds, _, _, r, k => by
    cases r with
    | tuple h1 h2 h3 h4 =>
      rw [toK]
      exact .tup h1 h2 h3 (nesteds_of ds _ _ h4 (by simpa only [keyB] using k))
theorem nesteds_of {h : Heap} : ∀ (ds : List PyData) (vs : List Value) (as : List Addr), ReadsAll h vs ds as → keyBs ds = true → NestedAll h (toKs ds) vs
  | [], _, _, r, _ => by cases r; rw [toKs]; exact .nil
  | d :: ds, _, _, r, k => by
    cases r with
    | cons a b =>
      rw [keyBs, Bool.and_eq_true] at k
      rw [toKs]
      exact .cons (nested_of d _ _ a k.1) (nesteds_of ds _ _ b k.2)
end
mutual
theorem toK_inj : ∀ (a b : PyData), keyB a = true → keyB b = true → toK a = toK b → a = b
  | .none, b, _, kb, e => by cases b <;> first | rfl | (cases kb; done) | (rw [toK] at e; simp [toK] at e)
  | .bool _, _, k, _, _ => by cases k
  | .int i, b, _, kb, e => by cases b <;> first | (cases kb; done) | (simp [toK] at e; done) | (simp [toK] at e; rw [e])
  | .str x, b, _, kb, e => by cases b <;> first | (cases kb; done) | (simp [toK] at e; done) | (simp [toK] at e; rw [e])
  | .list _, _, k, _, _ => by cases k
  | .dict _, _, k, _, _ => by cases k
  | .tuple ds, b, ka, kb, e => by
    cases b with
    | tuple es =>
      rw [toK, toK] at e
      rw [toKs_inj ds es (by simpa only [keyB] using ka) (by simpa only [keyB] using kb) (NestedKey.tup.inj e)]
    | none => simp [toK] at e
    | int _ => simp [toK] at e
    | str _ => simp [toK] at e
    | _ => cases kb
theorem toKs_inj : ∀ (a b : List PyData), keyBs a = true → keyBs b = true → toKs a = toKs b → a = b
  | [], [], _, _, _ => rfl
  | [], _ :: _, _, _, e => by simp [toKs] at e
  | _ :: _, [], _, _, e => by simp [toKs] at e
  | a :: as, b :: bs, ka, kb, e => by
    rw [keyBs, Bool.and_eq_true] at ka kb
    rw [toKs, toKs] at e
    have e' := List.cons.inj e
    rw [toK_inj a b ka.1 kb.1 e'.1, toKs_inj as bs ka.2 kb.2 e'.2]
end
mutual
theorem key_plain : ∀ d : PyData, keyB d = true → d.plain = true
  | .none, _ => rfl
  | .bool _, _ => rfl
  | .int _, _ => rfl
  | .str _, _ => rfl
  | .list _, k => by cases k
  | .dict _, k => by cases k
  | .tuple ds, k => by
    simp only [PyData.plain]
    exact keys_plain ds (by simpa only [keyB] using k)
theorem keys_plain : ∀ ds : List PyData, keyBs ds = true → PyData.plainAll ds = true
  | [], _ => rfl
  | d :: ds, k => by
    rw [keyBs, Bool.and_eq_true] at k
    rw [PyData.plainAll, key_plain d k.1, keys_plain ds k.2]; rfl
end
theorem keyT_iff {d : PyData} (h : keyT d = true) : (∃ ds, d = .tuple ds) ∧ keyB d = true ∧ (toK d).depth ≤ 8 := by
  unfold keyT at h
  rw [Bool.and_eq_true, Bool.and_eq_true, decide_eq_true_eq] at h
  obtain ⟨h1, h2, h3⟩ := h
  cases d with
  | tuple ds => exact ⟨⟨ds, rfl⟩, h2, h3⟩
  | _ => cases h1

/-! ### dicts on the heap -/
def isK : PyData → Option Key
  | .int i => some (.inl i)
  | .str x => some (.inr x)
  | _ => none
theorem isK_un {d : PyData} {k : Key} (h : isK d = some k) : unKey k = d := by
  cases d <;> simp [isK] at h <;> subst h <;> rfl
theorem isK_unKey (k : Key) : isK (unKey k) = some k := by cases k <;> rfl
theorem isK_T {d : PyData} (h : keyT d = true) : isK d = none := by
  obtain ⟨⟨ds, rfl⟩, _⟩ := keyT_iff h
  rfl
section
variable {z : Bool} {X : Cx} {pins : List (Addr × Obj)} {σ : St} {H : Hp} {s : Shared} {O : Addr → Prop} {a : Addr} {kvs : List (PyData × PyData)}
theorem RepT.keyAll {K H O} : ∀ {xs : List TRow} {kvs : List (PyData × PyData)}, RepT K H O xs kvs → ∀ p ∈ kvs, keyT p.1 = true
  | _, _, .nil, _, h => by cases h
  | _, _, .cons _ k _ _ r, p, h => by
    rcases List.mem_cons.mp h with rfl | h
    · exact k
    · exact RepT.keyAll r p h
theorem RepI.keyAll {K H O} : ∀ {es : List (Key × V)} {kvs : List (PyData × PyData)}, RepI K H O es kvs → ∀ p ∈ kvs, (isK p.1).isSome = true
  | _, _, .nil, _, h => by cases h
  | _, _, .cons (k := k) _ r, p, h => by
    rcases List.mem_cons.mp h with rfl | h
    · show (isK (unKey k)).isSome = true
      rw [isK_unKey]; rfl
    · exact RepI.keyAll r p h
theorem RepT.is (I : Inv X pins σ H s) : ∀ {xs : List TRow} {kvs : List (PyData × PyData)}, RepT X.kw H O xs kvs → ∀ x ∈ xs, (nestedKind X.prog X.w).is s.heap x.1 x.2.1
  | _, _, .nil, _, h => by cases h
  | _, _, .cons (dk := dk) rk k _ _ r, x, h => by
    rcases List.mem_cons.mp h with rfl | h
    · obtain ⟨_, k2, k3⟩ := keyT_iff k
      obtain ⟨as, q⟩ := Dp.reads I dk _ _ (rk.dp (key_plain dk k2)) rfl
      exact ⟨nested_of dk _ _ q k2, k3⟩
    · exact RepT.is I r x h
/-- the dict as one with tuples for keys -/
theorem dT_heap (I : Inv X pins σ H s) (h : DAt X.kw H O z a kvs) (ks : ∀ p ∈ kvs, keyT p.1 = true) : ∃ xs, RepT X.kw H O xs kvs ∧ xs.length ≤ sizeLine ∧ (a == sysModules) = false ∧ s.heap.DictOfH (nestedKind X.prog X.w) a xs := by
  cases h with
  | @k _ _ es _ e r =>
    have hz : kvs = [] := by
      cases kvs with
      | nil => rfl
      | cons p kvs =>
        have h1 := ks p (by simp)
        have h2 := r.keyAll p (by simp)
        rw [isK_T h1] at h2; cases h2
    subst hz
    cases r
    obtain ⟨z, hd, vs, rel, o, es, ep, ho, hx, hdat, hk, hp, hn⟩ := dk_rd I.hok e.rd
    cases rel
    refine ⟨[], .nil, Nat.zero_le _, hd, o, es, ep, ho, hx, hdat, ?_, (fun x hx => nomatch hx), List.nodup_nil⟩
    generalize es.toList = l at hp
    cases hp; rfl
  | @t _ _ xs _ e r =>
    obtain ⟨⟨z, hd, o, es, ep, ho, hx, hdat, he, hn⟩, _⟩ := rd_of I.hok e.rd
    exact ⟨xs, r, z, hd, o, es, ep, ho, hx, hdat, he, r.is I, hn⟩
/-- the dict as one with ints and texts for keys -/
theorem dI_heap (I : Inv X pins σ H s) (h : DAt X.kw H O z a kvs) (ks : ∀ p ∈ kvs, (isK p.1).isSome = true) : ∃ es vs, RepI X.kw H O es kvs ∧ L2.KV es vs ∧ es.length ≤ sizeLine ∧ (a == sysModules) = false ∧ s.heap.DictOf (mixKind X.prog X.w) a vs := by
  cases h with
  | @k _ _ es _ e r =>
    obtain ⟨z, hd, vs, rel, dd⟩ := dk_rd I.hok e.rd
    exact ⟨es, vs, r, rel, z, hd, dd⟩
  | @t _ _ xs _ e r =>
    have hz : kvs = [] := by
      cases kvs with
      | nil => rfl
      | cons p kvs =>
        have h1 := ks p (by simp)
        have h2 := r.keyAll p (by simp)
        rw [isK_T h2] at h1; cases h1
    subst hz
    cases r
    obtain ⟨⟨z, hd, o, es, ep, ho, hx, hdat, he, hn⟩, _⟩ := rd_of I.hok e.rd
    refine ⟨[], [], .nil, .nil, Nat.zero_le _, hd, o, es, ep, ho, hx, hdat, ?_, ?_, List.nodup_nil⟩
    · intro e' he'
      have : e' ∈ es.toList := by simpa using he'
      rw [he] at this
      cases this
    · rw [he]; exact .nil
end
/-! ### what a dict answers -/
def keq (a b : PyData) : Bool := NestedKey.beq (toK a) (toK b)
def dGet (kvs : List (PyData × PyData)) (k : PyData) : Option PyData := (kvs.find? fun p => keq p.1 k).map (·.2)
def dPut (kvs : List (PyData × PyData)) (k v : PyData) : List (PyData × PyData) :=
  if (dGet kvs k).isSome then kvs.map (fun p => if keq p.1 k then (p.1, v) else p) else kvs ++ [(k, v)]
def okKey (kvs : List (PyData × PyData)) (k : PyData) : Bool := (keyT k && kvs.all fun p => keyT p.1) || ((isK k).isSome && kvs.all fun p => (isK p.1).isSome)
theorem okKey_iff {kvs k} (h : okKey kvs k = true) : (keyT k = true ∧ ∀ p ∈ kvs, keyT p.1 = true) ∨ ((∃ q, k = unKey q) ∧ ∀ p ∈ kvs, (isK p.1).isSome = true) := by
  unfold okKey at h
  rw [Bool.or_eq_true, Bool.and_eq_true, Bool.and_eq_true, List.all_eq_true, List.all_eq_true] at h
  rcases h with h | ⟨h1, h2⟩
  · exact .inl h
  · obtain ⟨q, e⟩ := Option.isSome_iff_exists.mp h1
    exact .inr ⟨⟨q, (isK_un e).symm⟩, h2⟩
theorem keq_iff (a b : PyData) : keq a b = true ↔ toK a = toK b := ⟨NestedKey.eq_of_beq _ _, fun e => by unfold keq; rw [e]; exact NestedKey.beq_self _⟩
theorem keq_un (a b : Key) : keq (unKey a) (unKey b) = decide (a = b) := by
  unfold keq
  rw [← NestedKey.decide_eq]
  cases a <;> cases b <;> simp [unKey, toK]
section
variable {K : Kw} {H : Hp} {O : Addr → Prop}
theorem RepT.get (k : PyData) : ∀ {xs : List TRow} {kvs : List (PyData × PyData)}, RepT K H O xs kvs →
    (dGet kvs k = none ∧ atKey xs (toK k) = none) ∨ ∃ d b u v, dGet kvs k = some d ∧ atKey xs (toK k) = some (b, u) ∧ RelV v u ∧ Rep K H O v d
  | _, _, .nil => .inl ⟨rfl, rfl⟩
  | _, _, .cons (dk := dk) (d := d) (b := b) (u := u) (v := v) (xs := xs) (kvs := kvs) rk kk ru rv r => by
    by_cases e : toK dk = toK k
    · refine .inr ⟨d, b, u, v, ?_, ?_, ru, rv⟩
      · unfold dGet
        rw [List.find?_cons_of_pos (by exact (keq_iff dk k).mpr e)]
        rfl
      · unfold atKey
        rw [List.find?_cons_of_pos (by exact decide_eq_true e)]
        rfl
    · have h1 : dGet ((dk, d) :: kvs) k = dGet kvs k := by
        unfold dGet
        rw [List.find?_cons_of_neg (by show ¬ keq dk k = true; rw [keq_iff]; exact e)]
      have h2 : atKey ((toK dk, b, u) :: xs) (toK k) = atKey xs (toK k) := by
        unfold atKey
        rw [List.find?_cons_of_neg (by show ¬ decide (toK dk = toK k) = true; rw [decide_eq_true_eq]; exact e)]
      rw [h1, h2]
      exact RepT.get k r
theorem RepI.get (k : Key) : ∀ {es : List (Key × V)} {kvs : List (PyData × PyData)}, RepI K H O es kvs →
    (dGet kvs (unKey k) = none ∧ valV es k = none) ∨ ∃ d v, dGet kvs (unKey k) = some d ∧ valV es k = some v ∧ Rep K H O v d
  | _, _, .nil => .inl ⟨rfl, rfl⟩
  | _, _, .cons (k := j) (d := d) (v := v) (es := es) (kvs := kvs) rv r => by
    by_cases e : j = k
    · refine .inr ⟨d, v, ?_, valV_pos e, rv⟩
      unfold dGet
      rw [List.find?_cons_of_pos (by show keq (unKey j) (unKey k) = true; rw [keq_un, e]; simp)]
      rfl
    · have h1 : dGet ((unKey j, d) :: kvs) (unKey k) = dGet kvs (unKey k) := by
        unfold dGet
        rw [List.find?_cons_of_neg (by show ¬ keq (unKey j) (unKey k) = true; rw [keq_un]; simpa using e)]
      rw [h1, valV_neg e]
      exact RepI.get k r
end
section
variable {z : Bool} {X : Cx} {pins : List (Addr × Obj)} {σ : St} {H : Hp} {s : Shared} {O : Addr → Prop} {a : Addr} {kvs : List (PyData × PyData)} {A : Around} {E : Value → Shared → Prop} {k : PyData} {y : V} {u : Value}
theorem room9 (hu : A.units + 9 < cLine) : (nestedKind X.prog X.w).room A.in1 := by
  show A.in1.units + 8 < cLine
  rw [Around.in1_units]; omega
theorem key_is (I : Inv X pins σ H s) (r : Rep X.kw H O y k) (ry : RelV y u) (h : keyT k = true) : ∃ b, u = .ref b ∧ (nestedKind X.prog X.w).is s.heap (toK k) b := by
  obtain ⟨⟨ds, rfl⟩, k2, k3⟩ := keyT_iff h
  cases r with
  | @tup b xs _ h0 r0 =>
    cases (show u = Value.ref b from ry)
    obtain ⟨as, q⟩ := Dp.reads I (.tuple ds) _ _ ((Rep.tup h0 r0).dp (key_plain _ k2)) rfl
    exact ⟨b, rfl, nested_of _ _ _ q k2, k3⟩
theorem key_un {q : Key} (r : Rep X.kw H O y (unKey q)) : y = kV q := by
  cases q with
  | inl i => cases r; rfl
  | inr x => cases r; rfl
theorem dct_getItem {d : PyData} {Q : Value → Shared → Prop} (hu : A.units + 9 < cLine) (I : Inv X pins σ H s) (h : DAt X.kw H O z a kvs) (r : Rep X.kw H O y k) (ry : RelV y u) (ok : okKey kvs k = true) (hd : dGet kvs k = some d)
    (q : ∀ v w' s', Inv X pins σ H s' → RelV v w' → Rep X.kw H O v d → Q w' s') : wpAny (model X.prog X.w) A (getItem (.ref a) u) Q E s := by
  rcases okKey_iff ok with ⟨k1, k2⟩ | ⟨⟨q', rfl⟩, k2⟩
  · obtain ⟨xs, rt, z, hm, dd⟩ := dT_heap I h k2
    obtain ⟨b, rfl, is⟩ := key_is I r ry k1
    rcases rt.get k with ⟨e1, _⟩ | ⟨d', b', u', v, e1, e2, rv, rp⟩
    · rw [hd] at e1; cases e1
    · rw [hd] at e1; cases e1
      exact wpAny_getItem_heap (room9 hu) is dd e2 (q v u' _ (I.tok _) rv rp)
  · obtain ⟨es, vs, ri, rel, z, hm, dd⟩ := dI_heap I h k2
    obtain rfl := key_un r
    rcases ri.get q' with ⟨e1, _⟩ | ⟨d', v, e1, e2, rp⟩
    · rw [hd] at e1; cases e1
    · rw [hd] at e1; cases e1
      obtain ⟨w', hw, rw'⟩ := RelO.some_of (v := v) (o := valueAt vs q') (by rw [← e2]; exact rel.val q')
      exact wpAny_getItem_of (kV_is ry) dd.mapOf hw (q v w' _ (I.tok _) rw' rp)
theorem dct_in {Q : Value → Shared → Prop} (hu : A.units + 9 < cLine) (I : Inv X pins σ H s) (h : DAt X.kw H O z a kvs) (r : Rep X.kw H O y k) (ry : RelV y u) (ok : okKey kvs k = true)
    (q : ∀ s', Inv X pins σ H s' → Q (.bool (dGet kvs k).isSome) s') : wpAny (model X.prog X.w) A (compareOp .In u (.ref a)) Q E s := by
  rcases okKey_iff ok with ⟨k1, k2⟩ | ⟨⟨q', rfl⟩, k2⟩
  · obtain ⟨xs, rt, z, hm, dd⟩ := dT_heap I h k2
    obtain ⟨b, rfl, is⟩ := key_is I r ry k1
    refine wpAny_in_heap (room9 hu) is hm dd ?_
    have e : (atKey xs (toK k)).isSome = (dGet kvs k).isSome := by
      rcases rt.get k with ⟨e1, e2⟩ | ⟨_, _, _, _, e1, e2, _⟩ <;> rw [e1, e2] <;> rfl
    rw [e]
    exact q _ (I.tok _)
  · obtain ⟨es, vs, ri, rel, z, hm, dd⟩ := dI_heap I h k2
    obtain rfl := key_un r
    refine wpAny_in_of (kV_is ry) hm dd.mapOf ?_
    have e : (valV es q').isSome = (dGet kvs (unKey q')).isSome := by
      rcases ri.get q' with ⟨e1, e2⟩ | ⟨_, _, e1, e2, _⟩ <;> rw [e1, e2] <;> rfl
    rw [← (rel.val q').isSome_eq, e]
    exact q _ (I.tok _)
theorem dct_notIn {Q : Value → Shared → Prop} (hu : A.units + 9 < cLine) (I : Inv X pins σ H s) (h : DAt X.kw H O z a kvs) (r : Rep X.kw H O y k) (ry : RelV y u) (ok : okKey kvs k = true)
    (q : ∀ s', Inv X pins σ H s' → Q (.bool (!(dGet kvs k).isSome)) s') : wpAny (model X.prog X.w) A (compareOp .NotIn u (.ref a)) Q E s := by
  rcases okKey_iff ok with ⟨k1, k2⟩ | ⟨⟨q', rfl⟩, k2⟩
  · obtain ⟨xs, rt, z, hm, dd⟩ := dT_heap I h k2
    obtain ⟨b, rfl, is⟩ := key_is I r ry k1
    refine wpAny_notIn_heap (room9 hu) is hm dd ?_
    have e : (atKey xs (toK k)).isSome = (dGet kvs k).isSome := by
      rcases rt.get k with ⟨e1, e2⟩ | ⟨_, _, _, _, e1, e2, _⟩ <;> rw [e1, e2] <;> rfl
    rw [e]
    exact q _ (I.tok _)
  · obtain ⟨es, vs, ri, rel, z, hm, dd⟩ := dI_heap I h k2
    obtain rfl := key_un r
    refine wpAny_notIn_of (kV_is ry) hm dd.mapOf ?_
    have e : (valV es q').isSome = (dGet kvs (unKey q')).isSome := by
      rcases ri.get q' with ⟨e1, e2⟩ | ⟨_, _, e1, e2, _⟩ <;> rw [e1, e2] <;> rfl
    rw [← (rel.val q').isSome_eq, e]
    exact q _ (I.tok _)
end
section
variable {K : Kw} {H : Hp} {O : Addr → Prop}
theorem RepT.mapPut {k d : PyData} {u : Value} {v : V} (ru : RelV v u) (rd : Rep K H O v d) : ∀ {xs : List TRow} {kvs : List (PyData × PyData)}, RepT K H O xs kvs → RepT K H O (xs.map (putAt (toK k) u)) (kvs.map fun p => if keq p.1 k then (p.1, d) else p)
  | _, _, .nil => .nil
  | _, _, .cons (dk := dk) rk kk r1 rv r => by
    rw [List.map_cons, List.map_cons]
    by_cases e : toK dk = toK k
    · rw [if_pos ((keq_iff _ _).mpr e)]
      unfold putAt
      rw [if_pos e]
      exact .cons rk kk ru rd (RepT.mapPut ru rd r)
    · rw [if_neg (by rw [keq_iff]; exact e)]
      unfold putAt
      rw [if_neg e]
      exact .cons rk kk r1 rv (RepT.mapPut ru rd r)
theorem RepT.snoc {k d : PyData} {b : Addr} {u : Value} {v : V} (rk : Rep K H O (.ref b) k) (kk : keyT k = true) (ru : RelV v u) (rd : Rep K H O v d) : ∀ {xs : List TRow} {kvs : List (PyData × PyData)}, RepT K H O xs kvs → RepT K H O (xs ++ [(toK k, b, u)]) (kvs ++ [(k, d)])
  | _, _, .nil => .cons rk kk ru rd .nil
  | _, _, .cons a1 a2 a3 a4 r => .cons a1 a2 a3 a4 (RepT.snoc rk kk ru rd r)
theorem RepT.put {k d : PyData} {b : Addr} {u : Value} {v : V} (rk : Rep K H O (.ref b) k) (kk : keyT k = true) (ru : RelV v u) (rd : Rep K H O v d) {xs : List TRow} {kvs : List (PyData × PyData)} (r : RepT K H O xs kvs) : RepT K H O (storedH xs (toK k) b u) (dPut kvs k d) := by
  unfold storedH dPut
  rcases r.get k with ⟨e1, e2⟩ | ⟨_, _, _, _, e1, e2, _⟩ <;> rw [e1, e2]
  · exact r.snoc rk kk ru rd
  · exact r.mapPut ru rd
theorem RepI.mapPut {q : Key} {d : PyData} {v : V} (rd : Rep K H O v d) : ∀ {es : List (Key × V)} {kvs : List (PyData × PyData)}, RepI K H O es kvs → RepI K H O (es.map fun kv => if kv.1 = q then (kv.1, v) else kv) (kvs.map fun p => if keq p.1 (unKey q) then (p.1, d) else p)
  | _, _, .nil => .nil
  | _, _, .cons (k := j) rv r => by
    rw [List.map_cons, List.map_cons]
    by_cases e : j = q
    · rw [if_pos e, if_pos (by show keq (unKey j) (unKey q) = true; rw [keq_un, e]; simp)]
      exact .cons rd (RepI.mapPut rd r)
    · rw [if_neg e, if_neg (by show ¬ keq (unKey j) (unKey q) = true; rw [keq_un]; simpa using e)]
      exact .cons rv (RepI.mapPut rd r)
theorem RepI.snoc {q : Key} {d : PyData} {v : V} (rd : Rep K H O v d) : ∀ {es : List (Key × V)} {kvs : List (PyData × PyData)}, RepI K H O es kvs → RepI K H O (es ++ [(q, v)]) (kvs ++ [(unKey q, d)])
  | _, _, .nil => .cons rd .nil
  | _, _, .cons a r => .cons a (RepI.snoc rd r)
theorem RepI.put {q : Key} {d : PyData} {v : V} (rd : Rep K H O v d) {es : List (Key × V)} {kvs : List (PyData × PyData)} (r : RepI K H O es kvs) : RepI K H O (putK es q v) (dPut kvs (unKey q) d) := by
  unfold putK dPut
  rw [valV_any]
  rcases r.get q with ⟨e1, e2⟩ | ⟨_, _, e1, e2, _⟩ <;> rw [e1, e2]
  · exact r.snoc rd
  · exact r.mapPut rd
end
section
variable {z : Bool} {X : Cx} {pins : List (Addr × Obj)} {σ : St} {H : Hp} {s : Shared} {O : Addr → Prop} {a : Addr} {kvs : List (PyData × PyData)} {A : Around} {E : Value → Shared → Prop} {k d : PyData} {y v : V} {u r : Value}
theorem storedH_len (xs : List TRow) (k : NestedKey) (b : Addr) (u : Value) : (storedH xs k b u).length ≤ xs.length + 1 := by
  unfold storedH
  split
  · rw [List.length_map]; omega
  · rw [List.length_append]; exact Nat.le_refl _
theorem RepT.len {K H O} : ∀ {xs : List TRow} {kvs : List (PyData × PyData)}, RepT K H O xs kvs → xs.length = kvs.length
  | _, _, .nil => rfl
  | _, _, .cons _ _ _ _ r => by simp [RepT.len r]
theorem RepI.len {K H O} : ∀ {es : List (Key × V)} {kvs : List (PyData × PyData)}, RepI K H O es kvs → es.length = kvs.length
  | _, _, .nil => rfl
  | _, _, .cons _ r => by simp [RepI.len r]
theorem DAt.mut {K H O} (h : DAt K H O false a kvs) : Mut (H a) := by
  cases h with
  | k e _ => rw [show H a = _ from e]; exact True.intro
  | t e _ => rw [show H a = _ from e]; exact True.intro
theorem dct_setItem {Q : Unit → Shared → Prop} (hu : A.units + 9 < cLine) (I : Inv X pins σ H s) (h : DAt X.kw H O false a kvs) (hO : O a) (ry0 : Rep X.kw H O y k) (ry : RelV y u) (rv0 : Rep X.kw H O v d) (rv : RelV v r) (ok : okKey kvs k = true) (hl : kvs.length < sizeLine)
    (q : ∀ s' o', Inv X pins σ (upd H a o') s' → DAt X.kw (upd H a o') O false a (dPut kvs k d) → Q () s') : wpAny (model X.prog X.w) A (setItem (.ref a) u r) Q E s := by
  have mu := h.mut
  have ex : ∀ o', Ext H O (upd H a o') O := fun o' => ext_app hO
  rcases okKey_iff ok with ⟨k1, k2⟩ | ⟨⟨q', rfl⟩, k2⟩
  · obtain ⟨xs, rt, z, hm, dd⟩ := dT_heap I h k2
    obtain ⟨b, rfl, is⟩ := key_is I ry0 ry k1
    obtain rfl : y = .ref b := by
      cases y <;> first | (cases ry; rfl; done) | (obtain ⟨_, ry⟩ := ry; cases ry; done) | (cases ry; done) | skip
    refine wpAny_setItem_heap (hsz := z) (room9 hu) is dd fun h' dd' hs => ?_
    obtain ⟨o, es, ep, ho, hx, hdat, he, his, hn⟩ := dd'
    have hlen : (storedH xs (toK k) b r).length ≤ sizeLine := by
      have := storedH_len xs (toK k) b r
      have := rt.len
      omega
    have td : TDict X.w a (storedH xs (toK k) b r) h' := ⟨hlen, hm, o, es, ep, ho, hx, hdat, he, hn⟩
    refine q _ (DTO X.w a (storedH xs (toK k) b r)) (d_write I mu hs ⟨o, ho⟩ ⟨td, ⟨o, ho⟩, fun h1 h2 p1 keep => ?_⟩) (.t (show Hz _ false a _ from upd_same) ?_)
    · obtain ⟨a1, a2, o1, es1, ep1, b1, b2, b3, b4, b5⟩ := p1
      exact ⟨a1, a2, o1, es1, ep1, keep _ b1, b2, b3, b4, b5⟩
    · exact (rt.ext (ex _)).put (ry0.ext (ex _)) k1 rv (rv0.ext (ex _))
  · obtain ⟨es, vs, ri, rel, z, hm, dd⟩ := dI_heap I h k2
    obtain rfl := key_un ry0
    have hz : vs.length ≤ sizeLine := by rw [← rel.length]; exact z
    have hlen : (putK es q' v).length ≤ sizeLine := by
      have := length_putK es q' v
      have := ri.len
      omega
    refine wpAny_setItem_pairs (hsz := hz) (kV_is ry) dd fun h' dd' hs => ?_
    have he : ∃ q, h'.get? a = some q := let ⟨q, _, _, hq, _⟩ := dd'; ⟨q, hq⟩
    exact q _ (.dK (putK es q' v)) (d_write I mu hs he (dk_new hlen hm (rel.put q' rv) dd')) (.k (show Hz _ false a _ from upd_same) ((ri.ext (ex _)).put (rv0.ext (ex _))))
end
end Den

set_option Elab.async false
set_option linter.all false
set_option maxRecDepth 100000
set_option maxHeartbeats 4000000
namespace Den
open PySem PySem.Spec PyProof.Rows L2
/-! ### dicts: what is read of them -/
def ixE : PyData → PyData → Rs PyData
  | .dict kvs, k => if okKey kvs k then (match dGet kvs k with | some d => .ok d | none => stuck) else stuck
  | x, y => ixD x y
def inE : PyData → PyData → Rs PyData
  | k, .dict kvs => if okKey kvs k then .ok (.bool (dGet kvs k).isSome) else stuck
  | x, y => inD x y
def notInE : PyData → PyData → Rs PyData
  | k, .dict kvs => if okKey kvs k then .ok (.bool (!(dGet kvs k).isSome)) else stuck
  | x, y => notInD x y
def lenE : List PyData → Rs PyData
  | [.dict kvs] => .ok (.int kvs.length)
  | xs => lenD xs
theorem ixE_nd {x y : PyData} (h : ∀ kvs, x ≠ .dict kvs) : ixE x y = ixD x y := by cases x <;> first | rfl | exact absurd rfl (h _)
theorem inE_nd {x y : PyData} (h : ∀ kvs, y ≠ .dict kvs) : inE x y = inD x y := by cases y <;> first | rfl | exact absurd rfl (h _)
theorem notInE_nd {x y : PyData} (h : ∀ kvs, y ≠ .dict kvs) : notInE x y = notInD x y := by cases y <;> first | rfl | exact absurd rfl (h _)
theorem dict_or (x : PyData) : (∃ kvs, x = .dict kvs) ∨ ∀ kvs, x ≠ .dict kvs := by
  cases x with
  | dict kvs => exact .inl ⟨kvs, rfl⟩
  | _ => exact .inr fun _ h => by cases h
theorem ixE_quiet : ∀ x y, Quiet (ixE x y) := fun x y => by
  rcases dict_or x with ⟨kvs, rfl⟩ | h
  · show Quiet (if okKey kvs y then _ else _)
    refine ite_quiet ?_ stuck_quiet
    cases dGet kvs y with
    | some d => exact ok_quiet
    | none => exact stuck_quiet
  · rw [ixE_nd h]; exact ixD_quiet _ _
theorem inE_quiet : ∀ x y, Quiet (inE x y) := fun x y => by
  rcases dict_or y with ⟨kvs, rfl⟩ | h
  · exact ite_quiet ok_quiet stuck_quiet
  · rw [inE_nd h]; exact inD_quiet _ _
theorem notInE_quiet : ∀ x y, Quiet (notInE x y) := fun x y => by
  rcases dict_or y with ⟨kvs, rfl⟩ | h
  · exact ite_quiet ok_quiet stuck_quiet
  · rw [notInE_nd h]; exact notInD_quiet _ _
theorem lenE_quiet : ∀ x, Quiet (lenE x) := fun x => by
  unfold lenE
  split
  · exact ok_quiet
  · exact lenD_quiet _
section
variable {X : Cx} {pins : List (Addr × Obj)} {σ : St} {H : Hp} {s : Shared} {O : Addr → Prop} {a : Addr} {z : Bool} {kvs : List (PyData × PyData)} {k : PyData} {y : V} {u : Value} {A : Around} {E : Value → Shared → Prop}
theorem RepB.key (r : RepB X.kw H O y k) (h : okKey kvs k = true) : Rep X.kw H O y k := by
  rcases okKey_iff h with ⟨h, _⟩ | ⟨⟨q, rfl⟩, _⟩
  · obtain ⟨⟨ds, rfl⟩, _⟩ := keyT_iff h
    exact r.tupR
  · cases q with
    | inl i => obtain rfl := r.int; exact .int i
    | inr x => obtain rfl := r.str; exact .str x
/-- the dict's own object: its entries, in a row -/
structure RawD (X : Cx) (H : Hp) (O : Addr → Prop) (s : Shared) (a : Addr) (kvs : List (PyData × PyData)) (es : Array DictEntry) (ep : Nat) : Prop where
  raw : s.heap.DictRaw a es ep
  sys : (a == sysModules) = false
  size : es.size = kvs.length
  few : kvs.length ≤ sizeLine
  keys : ∃ xs : List V, Vals xs (es.toList.map (·.key)) ∧ Reps X.kw H O xs (kvs.map (·.1))
theorem vals_of_at {us : List Value} {xs : List V} (hl : xs.length = us.length) (h : ∀ (j : Nat) (x : V) (v : Value), xs[j]? = some x → us[j]? = some v → RelV x v) : Vals xs us := by
  induction xs generalizing us with
  | nil =>
    cases us with
    | nil => exact .nil
    | cons u us => cases hl
  | cons x xs ih =>
    cases us with
    | nil => cases hl
    | cons u us => exact .cons (h 0 x u rfl rfl) (ih (by simpa using hl) fun j x v e e' => h (j + 1) x v (by simpa using e) (by simpa using e'))
theorem RepT.refs {K : Kw} {H : Hp} {O : Addr → Prop} : ∀ {xs : List TRow} {kvs : List (PyData × PyData)}, RepT K H O xs kvs → Reps K H O (xs.map fun x => V.ref x.2.1) (kvs.map (·.1))
  | _, _, .nil => .nil
  | _, _, .cons a _ _ _ r => .cons a r.refs
theorem RepI.refs {K : Kw} {H : Hp} {O : Addr → Prop} : ∀ {es : List (Key × V)} {kvs : List (PyData × PyData)}, RepI K H O es kvs → Reps K H O (es.map fun x => kV x.1) (kvs.map (·.1))
  | _, _, .nil => .nil
  | _, _, .cons (k := k) _ r => .cons (by cases k with | inl i => exact .int i | inr x => exact .str x) r.refs
theorem DAt.rawD (I : Inv X pins σ H s) (h : DAt X.kw H O z a kvs) : ∃ es ep, RawD X H O s a kvs es ep := by
  cases h with
  | @k _ _ ks _ e r =>
    obtain ⟨es, vs, ri, rel, z, hm, dd⟩ := dI_heap I (.k e r) r.keyAll
    obtain ⟨en, ep, hr, hs, he⟩ := dd.raw
    have hl : en.size = kvs.length := by rw [hs, ← rel.length, ri.len]
    refine ⟨en, ep, hr, hm, hl, by rw [← ri.len]; exact z, _, ?_, ri.refs⟩
    refine vals_of_at (by rw [List.length_map, List.length_map, Array.length_toList (xs := en), hl, ri.len]) fun j x v e1 e2 => ?_
    rw [List.getElem?_map, Option.map_eq_some_iff] at e1 e2
    obtain ⟨p, e1, rfl⟩ := e1
    obtain ⟨q, e2, rfl⟩ := e2
    obtain ⟨w, hw, rw'⟩ : ∃ w, vs[j]? = some w ∧ p.1 = w.1 := by
      have hlt := (List.getElem?_eq_some_iff.mp e1).1
      have hv : j < vs.length := by rw [← rel.length]; exact hlt
      refine ⟨vs[j], List.getElem?_eq_getElem hv, ?_⟩
      have hk := congrArg (·[j]?) rel.keys
      simp only [List.getElem?_map, e1, List.getElem?_eq_getElem hv, Option.map_some] at hk
      exact Option.some.inj hk
    have hj : j < en.size := by
      have := (List.getElem?_eq_some_iff.mp e2).1
      rwa [Array.length_toList] at this
    obtain ⟨h1, _⟩ := he j hj w.1 w.2 hw
    have e3 : en[j] = q := by
      rw [Array.getElem?_toList, Array.getElem?_eq_getElem hj] at e2
      exact Option.some.inj e2
    rw [e3, ← rw'] at h1
    exact relV_key (show keyIs p.1 q.key = true from h1)
  | @t _ _ rs _ e r =>
    obtain ⟨xs, rt, z, hm, dd⟩ := dT_heap I (.t e r) r.keyAll
    obtain ⟨en, ep, hr, hs, he⟩ := dd.raw
    have hl : en.size = kvs.length := by rw [hs, rt.len]
    refine ⟨en, ep, hr, hm, hl, by rw [← rt.len]; exact z, _, ?_, rt.refs⟩
    refine vals_of_at (by rw [List.length_map, List.length_map, Array.length_toList (xs := en), hl, rt.len]) fun j x v e1 e2 => ?_
    rw [List.getElem?_map, Option.map_eq_some_iff] at e1 e2
    obtain ⟨p, e1, rfl⟩ := e1
    obtain ⟨q, e2, rfl⟩ := e2
    have hj : j < en.size := by
      have := (List.getElem?_eq_some_iff.mp e2).1
      rwa [Array.length_toList] at this
    obtain ⟨y, hy, h1, _⟩ := he j hj
    rw [e1] at hy
    cases hy
    have e3 : en[j] = q := by
      rw [Array.getElem?_toList, Array.getElem?_eq_getElem hj] at e2
      exact Option.some.inj e2
    rw [e3] at h1
    exact h1
theorem RawD.noDict {es : Array DictEntry} {ep : Nat} (r : RawD X H O s a kvs es ep) : ∀ b, Value.ref a = .ref b → ∃ ob, s.heap.get? b = some ob ∧ ob.dict = none := fun b q => by
  cases q
  obtain ⟨ob, h1, h2, _⟩ := r.raw
  exact ⟨ob, h1, h2.2.1⟩
end
section
variable {X : Cx}
theorem ix_E (hu : X.A.units + 9 < cLine) : IxB X ixE := fun value slice pins s σ H x y v u Q I rx ry ⟨O, d, e, ok, r1, r2, q⟩ hs => by
  cases d with
  | dict kvs =>
    obtain ⟨z, a, rfl, hD⟩ := r1.dct
    cases rx
    obtain ⟨es, ep, R⟩ := hD.rawD I
    have q : Give X.kw H O (if okKey kvs e then (match dGet kvs e with | some d => (.ok d : Rs PyData) | none => stuck) else stuck) Q := q
    split at q
    · rename_i hk
      split at q
      · rename_i d hd
        exact tail_any R.raw.typeIs PySem.F.slot_dict_getitem.lookup (dct_getItem hu I hD (r2.key hk) ry hk hd fun v w' s' I' rv rp => ⟨v, H, I', rv, give_rep q rp⟩) hs
      · exact q.elim
    · exact q.elim
  | _ => exact ix_seqB value slice pins s σ H x y v u Q I rx ry ⟨O, _, e, ok, r1, r2, q⟩ hs
theorem op_inE (hu : X.A.units + 65 < cLine) : OpB X (compareOp .In) inE := fun pins s σ H x y v u Q I rx ry ⟨O, d, e, ok, r1, r2, q⟩ => by
  cases e with
  | dict kvs =>
    obtain ⟨z, a, rfl, hD⟩ := r2.dct
    cases ry
    have q : Give X.kw H O (if okKey kvs d then (.ok (.bool (dGet kvs d).isSome) : Rs PyData) else stuck) Q := q
    split at q
    · rename_i hk
      exact dct_in (by omega) I hD (r1.key hk) rx hk fun s' I' => ⟨.bl _, H, I', rfl, give_bl q⟩
    · exact q.elim
  | _ => exact op_inB hu pins s σ H x y v u Q I rx ry ⟨O, d, _, ok, r1, r2, q⟩
theorem op_notInE (hu : X.A.units + 65 < cLine) : OpB X (compareOp .NotIn) notInE := fun pins s σ H x y v u Q I rx ry ⟨O, d, e, ok, r1, r2, q⟩ => by
  cases e with
  | dict kvs =>
    obtain ⟨z, a, rfl, hD⟩ := r2.dct
    cases ry
    have q : Give X.kw H O (if okKey kvs d then (.ok (.bool (!(dGet kvs d).isSome)) : Rs PyData) else stuck) Q := q
    split at q
    · rename_i hk
      exact dct_notIn (by omega) I hD (r1.key hk) rx hk fun s' I' => ⟨.bl _, H, I', rfl, give_bl q⟩
    · exact q.elim
  | _ => exact op_notInB hu pins s σ H x y v u Q I rx ry ⟨O, d, _, ok, r1, r2, q⟩
theorem len_raw {P : Program} {w : World} {A : Around} {E : Value → Shared → Prop} {s : Shared} {a : Addr} {es : Array DictEntry} {ep : Nat} {Q : Value → Shared → Prop} (hd : (a == sysModules) = false) (hm : s.heap.DictRaw a es ep) (hz : es.size ≤ sizeLine)
    (q : Q (.int es.size (s.toks + 1)) { s with toks := s.toks + 1 + 1 }) : wpAny (model P w) A (call (.builtin "len") [.ref a]) Q E s := by
  refine Calls.call_function_entry kind_len plain_len entry_len (args_len1 _) ?_
  unfold Builtin.«len»
  refine wpAny_bind (m := oneArg "len" _) (wpAny_pure ?_)
  refine wpAny_bind (m := callSpecial? (.ref a) (Str.ofString "__len__")) (wpAny_callSpecial?_slot (name := Str.ofString "__len__") hm.typeIs PySem.F.slot_dict_len (call_len_raw hd hm ?_))
  show wpAny _ _ _ _ _ { s with toks := s.toks + 1 }
  refine wpAny_bind (wpAny_holding (wpAny_pure ?_))
  refine wpAny_bind (wpAny_letGo ?_)
  rw [sizeLine_eq] at hz
  show wpAny _ _ (if ((es.size : Nat) : Int) < 0 then _ else _) _ _ _
  rw [if_neg (by omega)]
  show wpAny _ _ (if ((es.size : Nat) : Int) ≥ 2 ^ 63 then _ else _) _ _ _
  rw [if_neg (by omega)]
  exact wpAny_bind (wpAny_mkInt (wpAny_pure ⟨_, rfl, q⟩))
theorem len_dct {pins : List (Addr × Obj)} {σ : St} {H : Hp} {s : Shared} {O : Addr → Prop} {a : Addr} {z : Bool} {kvs : List (PyData × PyData)} {A : Around} {E : Value → Shared → Prop} {Q : Value → Shared → Prop} (I : Inv X pins σ H s) (h : DAt X.kw H O z a kvs) (q : ∀ t s', Inv X pins σ H s' → Q (.int kvs.length t) s') : wpAny (model X.prog X.w) A (call (.builtin "len") [.ref a]) Q E s := by
  obtain ⟨es, ep, R⟩ := h.rawD I
  exact len_raw R.sys R.raw (by rw [R.size]; exact R.few) (by rw [R.size]; exact q _ _ (I.tok _))
theorem call_lenE : CallB X (.builtin "len") lenE := fun pins s σ H xs us Q I rx ⟨O, ds, ok, r, q⟩ => by
  match ds, q with
  | [.dict kvs], q =>
    obtain ⟨v, rfl, rv⟩ := reps1 r
    obtain ⟨z, a, rfl, hD⟩ := rv.dct
    obtain ⟨u, rfl, ru⟩ := vals1 rx
    cases ru
    exact len_dct I hD fun t s' I' => ⟨.int _, H, I', ⟨t, rfl⟩, give_int q⟩
  | [], q => exact call_lenB pins s σ H xs us Q I rx ⟨O, _, ok, r, q⟩
  | _ :: _ :: _, q => exact call_lenB pins s σ H xs us Q I rx ⟨O, _, ok, r, by
      simp only [lenE] at q
      exact q⟩
  | [.none], q => exact call_lenB pins s σ H xs us Q I rx ⟨O, _, ok, r, q⟩
  | [.bool b], q => exact call_lenB pins s σ H xs us Q I rx ⟨O, _, ok, r, q⟩
  | [.int b], q => exact call_lenB pins s σ H xs us Q I rx ⟨O, _, ok, r, q⟩
  | [.str b], q => exact call_lenB pins s σ H xs us Q I rx ⟨O, _, ok, r, q⟩
  | [.list b], q => exact call_lenB pins s σ H xs us Q I rx ⟨O, _, ok, r, q⟩
  | [.tuple b], q => exact call_lenB pins s σ H xs us Q I rx ⟨O, _, ok, r, q⟩
end
/-! ### d.get(k), d.get(k, x) -/
def asD : PyData → Rs (List (PyData × PyData))
  | .dict kvs => .ok kvs
  | _ => stuck
def get1F (kvs : List (PyData × PyData)) (k : PyData) : Rs PyData := if okKey kvs k then .ok ((dGet kvs k).getD .none) else stuck
def get2F (kvs : List (PyData × PyData)) (k y : PyData) : Rs PyData := if okKey kvs k then .ok ((dGet kvs k).getD y) else stuck
def dGet1 (a b : DE) : DE := fun ρ => a ρ >>= fun x => asD x >>= fun kvs => b ρ >>= fun k => get1F kvs k
def dGet2 (a b c : DE) : DE := fun ρ => a ρ >>= fun x => asD x >>= fun kvs => b ρ >>= fun k => c ρ >>= fun y => get2F kvs k y
section
variable {X : Cx} {pins : List (Addr × Obj)} {σ : St} {H : Hp} {s : Shared} {O : Addr → Prop} {a : Addr} {z : Bool} {kvs : List (PyData × PyData)} {k : PyData} {y : V} {u : Value} {A : Around} {E : Value → Shared → Prop}
theorem dct_get1 {Q : Value → Shared → Prop} (hu : A.units + 9 < cLine) (I : Inv X pins σ H s) (h : DAt X.kw H O z a kvs) (r : Rep X.kw H O y k) (ry : RelV y u) (ok : okKey kvs k = true)
    (q : ∀ v w' s', Inv X pins σ H s' → RelV v w' → Rep X.kw H O v ((dGet kvs k).getD .none) → Q w' s') : wpAny (model X.prog X.w) A (call (.builtin "dict.get") [.ref a, u]) Q E s := by
  rcases okKey_iff ok with ⟨k1, k2⟩ | ⟨⟨q', rfl⟩, k2⟩
  · obtain ⟨xs, rt, z, hm, dd⟩ := dT_heap I h k2
    obtain ⟨b, rfl, is⟩ := key_is I r ry k1
    refine get_keyed (room9 hu) is hm ⟨xs, dd, rfl⟩ ?_
    rw [valueAt_pairsH]
    rcases rt.get k with ⟨e1, e2⟩ | ⟨d', b', u', v, e1, e2, rv, rp⟩
    · rw [e1] at q; rw [e2]
      exact q .non .none _ (I.tok _) rfl .non
    · rw [e1] at q; rw [e2]
      exact q v u' _ (I.tok _) rv rp
  · obtain ⟨es, vs, ri, rel, z, hm, dd⟩ := dI_heap I h k2
    obtain rfl := key_un r
    refine call_meetsIn PySem.F.slot_dict_get dd.typeIs PySem.F.entry_dict_get (PySem.F.args_dict_get_2 _ _) (meets_dict_get (mixKind X.prog X.w) a (kV_is ry) hm) ⟨_, dd.mapOf, ?_⟩
    rcases ri.get q' with ⟨e1, e2⟩ | ⟨d', v, e1, e2, rp⟩
    · have := rel.val q'
      rw [e2] at this
      have e3 : valueAt vs q' = none := by cases hv : valueAt vs q' with
        | none => rfl
        | some w => rw [hv] at this; exact this.elim
      rw [e1] at q; rw [e3]
      exact q .non .none _ (I.tok _) rfl .non
    · obtain ⟨w', hw, rw'⟩ := RelO.some_of (v := v) (o := valueAt vs q') (by rw [← e2]; exact rel.val q')
      rw [e1] at q; rw [hw]
      exact q v w' _ (I.tok _) rw' rp
theorem dct_get2 {x : PyData} {vx : V} {ux : Value} {Q : Value → Shared → Prop} (hu : A.units + 9 < cLine) (I : Inv X pins σ H s) (h : DAt X.kw H O z a kvs) (r : Rep X.kw H O y k) (ry : RelV y u) (rx0 : Rep X.kw H O vx x) (rx : RelV vx ux) (ok : okKey kvs k = true)
    (q : ∀ v w' s', Inv X pins σ H s' → RelV v w' → Rep X.kw H O v ((dGet kvs k).getD x) → Q w' s') : wpAny (model X.prog X.w) A (call (.builtin "dict.get") [.ref a, u, ux]) Q E s := by
  rcases okKey_iff ok with ⟨k1, k2⟩ | ⟨⟨q', rfl⟩, k2⟩
  · obtain ⟨xs, rt, z, hm, dd⟩ := dT_heap I h k2
    obtain ⟨b, rfl, is⟩ := key_is I r ry k1
    refine getOr_keyed (room9 hu) is hm ⟨xs, dd, rfl⟩ ?_
    rw [valueAt_pairsH]
    rcases rt.get k with ⟨e1, e2⟩ | ⟨d', b', u', v, e1, e2, rv, rp⟩
    · rw [e1] at q; rw [e2]
      exact q vx ux _ (I.tok _) rx rx0
    · rw [e1] at q; rw [e2]
      exact q v u' _ (I.tok _) rv rp
  · obtain ⟨es, vs, ri, rel, z, hm, dd⟩ := dI_heap I h k2
    obtain rfl := key_un r
    refine call_meetsIn PySem.F.slot_dict_get dd.typeIs PySem.F.entry_dict_get (PySem.F.args_dict_get_3 _ _ _) (meets_dict_get_default (mixKind X.prog X.w) a (kV_is ry) hm ux) ⟨_, dd.mapOf, ?_⟩
    rcases ri.get q' with ⟨e1, e2⟩ | ⟨d', v, e1, e2, rp⟩
    · have := rel.val q'
      rw [e2] at this
      have e3 : valueAt vs q' = none := by cases hv : valueAt vs q' with
        | none => rfl
        | some w => rw [hv] at this; exact this.elim
      rw [e1] at q; rw [e3]
      exact q vx ux _ (I.tok _) rx rx0
    · obtain ⟨w', hw, rw'⟩ := RelO.some_of (v := v) (o := valueAt vs q') (by rw [← e2]; exact rel.val q')
      rw [e1] at q; rw [hw]
      exact q v w' _ (I.tok _) rw' rp
end
section
variable {X : Cx} {W : WX} {o e f : Expr} {apos cpos : Pos} {co ce cf : DE}
theorem asD_ok {O : Addr → Prop} {σ : St} {H : Hp} {α : Type} {d : PyData} {k : List (PyData × PyData) → Rs α} {P : α → Prop} (p : Post X W O σ H (asD d >>= k) P) : ∃ kvs, d = .dict kvs ∧ Post X W O σ H (k kvs) P := by
  cases d with
  | dict kvs => exact ⟨kvs, rfl, p⟩
  | _ => exact False.elim p
theorem re_get1 (hu : X.A.units + 9 < cLine) (ho : PE X o (RB X W co)) (he : PE X e (RE X W ce)) (m : M1 X o "get" apos e cpos) : PE X (.Call (.Attribute o "get" apos) [e] [] cpos) (RE X W (dGet1 co ce)) := ⟨fun pins s σ H Q I ⟨Hb, ρ, O, g, p⟩ => by
  refine wpAny_Call_method m.base m.few m.line PySem.F.plainAttrs_dict PySem.F.slot_dict_get PySem.F.type_dict_get (thn (ho.run pins s σ H (fun x H1 => ∃ kvs z a, x = .ref a ∧ Same H H1 ∧ GoodE X.kw Hb O ρ σ H1 ∧ DAt X.kw H1 O z a kvs ∧ Post X W O σ H1 (ce ρ >>= fun k => get1F kvs k) fun d => ∀ v H', Same H H' → Rep X.kw H' O v d → Q v H') I ?_) fun u s1 ⟨x, H1, I1, rx, kvs, z, a, ex, t1, g1, hD, p1⟩ => ?_)
  · refine RB.go g p fun d v H1 g1 s1 r1 p1 => ?_
    obtain ⟨kvs, rfl, p1⟩ := asD_ok p1
    obtain ⟨z, a, rfl, hD⟩ := r1.dct
    exact ⟨kvs, z, a, rfl, s1, g1, hD, p1⟩
  · subst ex
    cases rx
    obtain ⟨es, ep, R⟩ := hD.rawD I1
    refine ⟨R.raw.typeIs, R.noDict, ?_⟩
    rw [m.trees]
    refine Calls.callWith_builtin rfl (Calls.evalArgs_plain (Calls.spliced_cons (thn (he.run pins s1 σ H1 (fun y H2 => ∃ k, Same H1 H2 ∧ GoodE X.kw Hb O ρ σ H2 ∧ Rep X.kw H2 O y k ∧ Post X W O σ H2 (get1F kvs k) fun d => ∀ v H', Same H H' → Rep X.kw H' O v d → Q v H') I1 ?_) fun iv s2 ⟨y, H2, I2, ry, k, t2, g2, rk, p2⟩ => Calls.spliced_nil ?_)))
    · exact RE.go' g1 p1 fun k y H2 g2 t2 rk p2 => ⟨k, t2, g2, rk, p2⟩
    · unfold get1F at p2
      split at p2
      · rename_i hk
        have hD2 : DAt X.kw H2 O z a kvs := hD.ext (Ext.same t2) fun o q => t2 a o q
        exact dct_get1 hu I2 hD2 rk ry hk fun v w' s' I' rv rp => ⟨v, H2, I', rv, p2 v H2 (t1.trans t2) rp⟩
      · exact False.elim p2⟩
theorem re_get2 (hu : X.A.units + 9 < cLine) (ho : PE X o (RB X W co)) (he : PE X e (RE X W ce)) (hf : PE X f (RE X W cf)) (m : M2 X o "get" apos e f cpos) : PE X (.Call (.Attribute o "get" apos) [e, f] [] cpos) (RE X W (dGet2 co ce cf)) := ⟨fun pins s σ H Q I ⟨Hb, ρ, O, g, p⟩ => by
  refine wpAny_Call_method m.base m.few m.line PySem.F.plainAttrs_dict PySem.F.slot_dict_get PySem.F.type_dict_get (thn (ho.run pins s σ H (fun x H1 => ∃ kvs z a, x = .ref a ∧ Same H H1 ∧ GoodE X.kw Hb O ρ σ H1 ∧ DAt X.kw H1 O z a kvs ∧ Post X W O σ H1 (ce ρ >>= fun k => cf ρ >>= fun y => get2F kvs k y) fun d => ∀ v H', Same H H' → Rep X.kw H' O v d → Q v H') I ?_) fun u s1 ⟨x, H1, I1, rx, kvs, z, a, ex, t1, g1, hD, p1⟩ => ?_)
  · refine RB.go g p fun d v H1 g1 s1 r1 p1 => ?_
    obtain ⟨kvs, rfl, p1⟩ := asD_ok p1
    obtain ⟨z, a, rfl, hD⟩ := r1.dct
    exact ⟨kvs, z, a, rfl, s1, g1, hD, p1⟩
  · subst ex
    cases rx
    obtain ⟨es, ep, R⟩ := hD.rawD I1
    refine ⟨R.raw.typeIs, R.noDict, ?_⟩
    rw [m.trees]
    refine Calls.callWith_builtin rfl (Calls.evalArgs_plain (Calls.spliced_cons (thn (he.run pins s1 σ H1 (fun y H2 => ∃ k, Same H1 H2 ∧ GoodE X.kw Hb O ρ σ H2 ∧ Rep X.kw H2 O y k ∧ Post X W O σ H2 (cf ρ >>= fun y => get2F kvs k y) fun d => ∀ v H', Same H H' → Rep X.kw H' O v d → Q v H') I1 ?_) fun iv s2 ⟨y, H2, I2, ry, k, t2, g2, rk, p2⟩ => Calls.spliced_cons (thn (hf.run pins s2 σ H2 (fun yd H3 => ∃ d, Same H2 H3 ∧ Rep X.kw H3 O yd d ∧ Post X W O σ H3 (get2F kvs k d) fun d => ∀ v H', Same H H' → Rep X.kw H' O v d → Q v H') I2 ?_) fun jv s3 ⟨yd, H3, I3, rd, d, t3, rdd, p3⟩ => Calls.spliced_nil ?_))))
    · exact RE.go' g1 p1 fun k y H2 g2 t2 rk p2 => ⟨k, t2, g2, rk, p2⟩
    · exact RE.go' g2 p2 fun d y H3 g3 t3 rd p3 => ⟨d, t3, rd, p3⟩
    · unfold get2F at p3
      split at p3
      · rename_i hk
        have hD2 : DAt X.kw H3 O z a kvs := hD.ext (Ext.same (t2.trans t3)) fun o q => t3 a o (t2 a o q)
        exact dct_get2 hu I3 hD2 (rk.ext (Ext.same t3)) ry rdd rd hk fun v w' s' I' rv rp => ⟨v, H3, I', rv, p3 v H3 ((t1.trans t2).trans t3) rp⟩
      · exact False.elim p3⟩
end
end Den

set_option Elab.async false
set_option linter.all false
set_option maxRecDepth 100000
set_option maxHeartbeats 4000000
namespace Den
open PySem PySem.Spec PyProof.Rows L2
/-! ### dicts of one's own: {}, d[k] = v, d.setdefault(k, v) -/
def sNewD (i : Nat) : DS := fun ρ => .ok (.nx (ρ.set i (.od [])))
def putF (kvs : List (PyData × PyData)) (k d : PyData) : Rs (List (PyData × PyData)) := if okKey kvs k && decide (kvs.length < sizeLine) then .ok (dPut kvs k d) else stuck
def setdF (kvs : List (PyData × PyData)) (k d : PyData) : Rs (List (PyData × PyData)) := if okKey kvs k && decide (kvs.length < sizeLine) then .ok (if (dGet kvs k).isSome then kvs else dPut kvs k d) else stuck
/-- the dict at slot i -/
def odAt (i : Nat) (ρ : EnvD) : Rs (List (PyData × PyData)) := match ρ[i]? with
  | some (.od kvs) => .ok kvs
  | _ => stuck
def sPut (i : Nat) (ck cv : DE) : DS := fun ρ => lift (cv ρ) ρ fun d => odAt i ρ >>= fun kvs => lift (ck ρ) ρ fun k => putF kvs k d >>= fun kvs' => .ok (.nx (ρ.set i (.od kvs')))
def sSetd (i : Nat) (ck cv : DE) : DS := fun ρ => odAt i ρ >>= fun kvs => lift (ck ρ) ρ fun k => lift (cv ρ) ρ fun d => setdF kvs k d >>= fun kvs' => .ok (.nx (ρ.set i (.od kvs')))
section
variable {X : Cx} {G : Gd} {W : WX}
theorem newD_go {i : Nat} {D : Ends} {σ : St} {H : Hp} (h : RS X G W (sNewD i) D σ H) : tAsg tDNewK (gName i) D σ H := by
  obtain ⟨ρ, O, g, p⟩ := h
  intro a hn
  exact p _ _ _ (ext_new hn) (g.put i (same_upd hn) hn (x := .od []) (show DAt X.kw (upd H a (.dK [])) (fun b => O b ∨ b = a) false a [] from .k (show Hz _ false a _ from upd_same) .nil))
theorem rs_newD {i : Nat} {x : Str} {p2 pos' pos : Pos} (hN : X.N.Nodup) (hi : X.N[i]? = some x) (hx : Loc X.env.scope x) (hs : swapsWith (.Dict [] [] p2) (some (.Name x pos')) pos.line X.env = pure false := by rfl) (hf : X.fn x = true ∨ X.env.scope.names.lookup x = some .local := by first | exact .inl rfl | exact .inr rfl | assumption) :
    PS X (.Assign [.Name x pos'] (.Dict [] [] p2) pos) (RS X G W (sNewD i)) := ps_imp (ps_set hN hi hx pe_dnewK hs hf) fun D σ H h => newD_go h
theorem odAt_at {i : Nat} {ρ : EnvD} {O : Addr → Prop} {D : Ends} {H : Hp} {f : List (PyData × PyData) → Rs Out} (p : OutR X G W D H O (odAt i ρ >>= f)) : ∃ kvs, ρ[i]? = some (.od kvs) ∧ OutR X G W D H O (f kvs) := by
  unfold odAt at p
  split at p
  · rename_i kvs e
    exact ⟨kvs, e, p⟩
  · exact p.elim
theorem putF_at {kvs kvs' : List (PyData × PyData)} {k d : PyData} (h : putF kvs k d = .ok kvs') : okKey kvs k = true ∧ kvs.length < sizeLine ∧ kvs' = dPut kvs k d := by
  unfold putF at h
  split at h
  · rename_i c
    rw [Bool.and_eq_true] at c
    cases h
    exact ⟨c.1, of_decide_eq_true c.2, rfl⟩
  · cases h
theorem rs_put {i : Nat} {x : Str} {ie value : Expr} {p pos' pos : Pos} {ck cv : DE} (hu : X.A.units + 9 < cLine) (hN : X.N[i]? = some x) (hv : Vis X.env.scope x) (hk : PE X ie (RE X W ck)) (he : PE X value (RE X W cv)) (hd : (x == ("__debug__" : Str)) = false := by decide)
    (hcd : (x == ("__classdict__" : Str)) = false := by decide) (hs : swapsWith value (some (.Subscript (.Name x p) ie pos')) pos.line X.env = pure false := by rfl) : PS X (.Assign [.Subscript (.Name x p) ie pos'] value pos) (RS X G W (sPut i ck cv)) := ⟨fun pins s σ H D I ⟨ρ, O, g, q⟩ => by
  refine wpAny_Assign_Subscript (thn (he.run pins s σ H (fun v H1 => ∃ d, Same H H1 ∧ Rep X.kw H1 O v d ∧ OutR X G W D H1 O (odAt i ρ >>= fun kvs => lift (ck ρ) ρ fun k => putF kvs k d >>= fun kvs' => .ok (.nx (ρ.set i (.od kvs'))))) I ⟨H, ρ, O, g.e, OutR.lift g q fun d _ q v H1 t r => ⟨d, t, r, OutR.ext (Ext.same t) q⟩⟩) fun r s1 ⟨v, H1, I1, rv, d, t1, rd, q1⟩ => ?_) hs
  have g1 := g.to t1
  obtain ⟨kvs, e, q1⟩ := odAt_at q1
  obtain ⟨a, e1, hD, oa, f⟩ := g1.od i kvs e
  refine thn ((pe_var hN hv hd hcd).run pins s1 σ H1 (fun y H2 => y = .ref a ∧ H2 = H1) I1 ⟨_, e1, rfl, rfl⟩) fun u s2 ⟨y, H2, I2, ry, ey, eh⟩ => ?_
  subst eh
  subst ey
  cases ry
  refine thn (hk.run pins s2 σ H2 (fun y H3 => ∃ k, Same H2 H3 ∧ Rep X.kw H3 O y k ∧ OutR X G W D H3 O (putF kvs k d >>= fun kvs' => .ok (.nx (ρ.set i (.od kvs'))))) I2 ⟨H2, ρ, O, g1.e, OutR.lift g1 q1 fun k _ q v H3 t r => ⟨k, t, r, OutR.ext (Ext.same t) q⟩⟩) fun iv s3 ⟨y, H3, I3, ry, k, t3, rk, q3⟩ => ?_
  obtain ⟨kvs', hf, q3⟩ := OutR.bind q3
  obtain ⟨ok, hl, rfl⟩ := putF_at hf
  have g3 := g1.to t3
  refine dct_setItem hu I3 (hD.ext (Ext.same t3) fun o z => t3 a o z) oa rk ry (rd.ext (Ext.same t3)) rv ok hl fun s' o' I' hD' => ⟨σ, _, I', ?_⟩
  exact q3 σ _ O (ext_app oa) (g3.updO e rfl e1 oa f hD')⟩
end
/-! ### the keys of a dict that changes no more, in their order -/
def Itq (d : Addr) (o : Obj) (xs : List V) : It := ⟨fun i H => (∃ u, H d = some (.frz o u)) ∧ i < xs.length, fun i H x H' => H' = H ∧ xs[i]? = some x, fun i H => (∃ u, H d = some (.frz o u)) ∧ xs.length ≤ i⟩
theorem frz_at {X : Cx} {pins : List (Addr × Obj)} {σ : St} {H : Hp} {s : Shared} (I : Inv X pins σ H s) {d : Addr} {o : Obj} {u : HO} (h : H d = some (.frz o u)) : s.heap.get? d = some o := (show ObjOk X.prog X.w H s.heap d (.frz o u) from I.hok d _ h).1
theorem vals_at {xs : List V} {us : List Value} (h : Vals xs us) {i : Nat} {u : Value} (e : us[i]? = some u) : ∃ x, xs[i]? = some x ∧ RelV x u := by
  induction h generalizing i with
  | nil => simp at e
  | cons a b ih =>
    cases i with
    | zero =>
      simp only [List.getElem?_cons_zero, Option.some.injEq] at e
      subst e
      exact ⟨_, rfl, a⟩
    | succ i =>
      simp only [List.getElem?_cons_succ] at e ⊢
      exact ih e
theorem turn_q {P : Program} {w : World} {K : PySem.W.Frag} {tg : Expr} {d : Addr} {o : Obj} {es : Array DictEntry} {ep : Nat} {xs : List V} (it : Addr) (hex : o.ExactDict) (hod : o.data = .dict es ep) (hv : Vals xs (es.toList.map (·.key))) : Turn P w K tg (Itq d o xs) [it] it (fun i h => h.IsKeyIter it d i es.size ep) where
  mem := List.mem_singleton.mpr rfl
  obj := fun i h st b hb => by
    obtain rfl := List.mem_singleton.mp hb
    obtain ⟨oi, e, c, dd⟩ := st
    refine ⟨oi, e, fun v q => ?_⟩
    rw [dd] at q; cases q
  keep := fun i h h' st k => st.at fun oi e => k it (List.mem_singleton.mpr rfl) oi e
  item := by
    intro X hP hw hK hc i pins s σ H E I hf st hg
    subst hP; subst hw; subst hK
    obtain ⟨⟨u, hd⟩, hi⟩ := hg
    obtain ⟨f0, f1, f2, f3, f4, f5⟩ := hf it (List.mem_singleton.mpr rfl)
    have hgd := frz_at I hd
    have hl : xs.length = es.size := by rw [Paired.length hv, List.length_map, Array.length_toList]
    have hlt : i < es.size := by omega
    obtain ⟨x, hx, rx⟩ := vals_at hv (i := i) (u := es[i].key) (by rw [List.getElem?_map, Array.getElem?_toList, Array.getElem?_eq_getElem hlt]; rfl)
    refine wpAny_pyNext_keys_item_raw st ⟨o, hgd, hex, hod⟩ hlt fun h' st' sb => ?_
    have I1 : Inv X pins σ H { s with heap := h' } := I.turned (t' := s.toks) (fun b oo hb e => (sb.2 b hb).trans e) f0 f1 f3 f4 f5
    obtain ⟨oi, e, c, dd⟩ := id st'
    exact ⟨_, rfl, go_of (s := { s with heap := h' }) e c dd (by decide) ⟨x, H, I1, rx, ⟨rfl, hx⟩, st', fun b hb => (hf b hb).1⟩⟩
  done := by
    intro X hP hw hK hc i pins s σ H E I hf st hg
    subst hP; subst hw; subst hK
    obtain ⟨⟨u, hd⟩, hi⟩ := hg
    obtain ⟨f0, f1, f2, f3, f4, f5⟩ := hf it (List.mem_singleton.mpr rfl)
    have hgd := frz_at I hd
    have hl : xs.length = es.size := by rw [Paired.length hv, List.length_map, Array.length_toList]
    exact next_key_end (I.ok.hd hc) st hgd hod rfl (by omega) fun h' eb => ⟨rfl, I.turned (t' := s.toks) (fun b oo hb e => eb b oo hb e) f0 f1 f3 f4 f5⟩
  self := fun A i s Q E st h => wpAny_pyIter_keyiter st h
def itemsE : PyData → Rs (List PyData)
  | .dict kvs => .ok (kvs.map (·.1))
  | d => itemsD d
def iE (a : DE) : DL := fun ρ => a ρ >>= itemsE
theorem src_q {K : Kw} {d : Addr} {o : Obj} {xs : List V} {ds : List PyData} {P : Hp → (Addr → Prop) → Prop} (h : ∀ H O, P H O → (∃ u, H d = some (.frz o u)) ∧ Reps K H O xs ds) : Src K (Itq d o xs) P ds where
  goes := fun i H O hi p => by
    obtain ⟨q, r⟩ := h H O p
    exact ⟨q, by rw [r.length]; exact hi⟩
  stops := fun H O p => by
    obtain ⟨q, r⟩ := h H O p
    exact ⟨q, by rw [r.length]; exact Nat.le_refl _⟩
  yields := fun i H O x H' e hd p _ y => by
    obtain ⟨q, r⟩ := h H O p
    obtain ⟨rfl, hx⟩ := y
    obtain ⟨e', e3, r3⟩ := pr_getL r hx
    rw [hd] at e3; cases e3
    exact ⟨Same.refl _, r3⟩
section
variable {X : Cx} {W : WX}
/-- what is known of a dict that changes no more -/
theorem DAt.known {pins : List (Addr × Obj)} {σ : St} {H : Hp} {s : Shared} {O : Addr → Prop} {a : Addr} {kvs : List (PyData × PyData)} (I : Inv X pins σ H s) (h : DAt X.kw H O true a kvs) : ∃ o es ep xs, (∃ u, H a = some (.frz o u)) ∧ o.ExactDict ∧ o.data = .dict es ep ∧ (a == sysModules) = false ∧ Vals xs (es.toList.map (·.key)) ∧ Reps X.kw H O xs (kvs.map (·.1)) := by
  obtain ⟨es, ep, R⟩ := h.rawD I
  obtain ⟨xs, hv, hr⟩ := R.keys
  obtain ⟨o, ho, hx, hd⟩ := R.raw
  have : ∃ u, H a = some (.frz o u) := by
    cases h with
    | k e _ =>
      obtain ⟨o', e⟩ := e
      have := frz_at I e
      rw [ho] at this; cases this
      exact ⟨_, e⟩
    | t e _ =>
      obtain ⟨o', e⟩ := e
      have := frz_at I e
      rw [ho] at this; cases this
      exact ⟨_, e⟩
  exact ⟨o, es, ep, xs, this, hx, hd, R.sys, hv, hr⟩
theorem ri_dict {tg iter : Expr} {ca : DE} (he : PE X iter (RE X W ca)) : PI X tg iter (RI X W (iE ca)) := by
  have h2 : PI X tg iter (fun σ H R => ∃ Hb ρ O, GoodE X.kw Hb O ρ σ H ∧ Post X W O σ H (ca ρ >>= asD) fun kvs => ∀ J P H', Same H H' → Src X.kw J P (kvs.map (·.1)) → Firm P → P H' O → R J H') := ⟨fun pins s σ H R I ⟨Hb, ρ, O, g, p⟩ => by
    refine thn (he.run pins s σ H (fun v H1 => ∃ kvs a, v = .ref a ∧ Same H H1 ∧ DAt X.kw H1 O true a kvs ∧ ¬ O a ∧ ∀ J P H', Same H H' → Src X.kw J P (kvs.map (·.1)) → Firm P → P H' O → R J H') I (RE.go' g (k := asD) p fun d v H1 g1 s1 r1 p1 => ?_)) fun v s1 ⟨x, H1, I1, rx, kvs, a, ex, t1, hD, nO, q⟩ => ?_
    · cases r1 with
      | dct hD n => exact ⟨_, _, rfl, s1, hD, n, p1⟩
      | _ => exact False.elim p1
    · subst ex
      cases rx
      obtain ⟨o, es, ep, xs, hu, hx, hd, hs, hv, hr⟩ := hD.known I1
      obtain ⟨u, hu⟩ := hu
      have hraw : s1.heap.DictRaw a es ep := ⟨o, frz_at I1 hu, hx, hd⟩
      refine wpAny_pyIter_dict_raw hs hraw (pi_one (tk := s1.toks) I1 _ (turn_q (P := X.prog) (w := X.w) (K := X.K) (tg := tg) s1.heap.objs.size hx hd hv) ⟨_, Heap.get?_push_size _ rfl, rfl, rfl⟩ ?_)
      have hS : Src X.kw (Itq a o xs) (fun H' O' => ((∃ u, H' a = some (.frz o u)) ∧ ¬ O' a) ∧ Reps X.kw H' O' xs (kvs.map (·.1))) (kvs.map (·.1)) := src_q fun H' O' z => ⟨z.1.1, z.2⟩
      refine q _ _ H1 t1 hS (fun H O H' O' e z => ?_) ⟨⟨⟨u, hu⟩, nO⟩, hr⟩
      obtain ⟨⟨⟨u, hu⟩, n⟩, hr⟩ := z
      have := e.at hu n
      exact ⟨⟨⟨u, this.1⟩, this.2⟩, hr.ext e⟩⟩
  refine pi_imp (pi_or (ri_e he) h2) fun σ H R ⟨Hb, ρ, O, g, p⟩ => ?_
  cases hc : ca ρ with
  | ok d =>
    rcases dict_or d with ⟨kvs, rfl⟩ | nd
    · refine .inr ⟨Hb, ρ, O, g, ?_⟩
      have p : Post X W O σ H (ca ρ >>= itemsE) _ := p
      rw [hc] at p ⊢
      exact p
    · refine .inl ⟨Hb, ρ, O, g, ?_⟩
      have p : Post X W O σ H (ca ρ >>= itemsE) _ := p
      have e : itemsE d = itemsD d := by cases d <;> first | rfl | exact absurd rfl (nd _)
      show Post X W O σ H (ca ρ >>= itemsD) _
      rw [hc] at p ⊢
      have p : Post X W O σ H (itemsE d) _ := p
      rw [e] at p
      exact p
  | error er =>
    refine .inl ⟨Hb, ρ, O, g, ?_⟩
    have p : Post X W O σ H (ca ρ >>= itemsE) _ := p
    show Post X W O σ H (ca ρ >>= itemsD) _
    rw [hc] at p ⊢
    exact p
end
end Den

set_option Elab.async false
set_option linter.all false
set_option maxRecDepth 100000
set_option maxHeartbeats 4000000
namespace Den
open PySem PySem.Spec PyProof.Rows L2
/-! ### sorted(d) of a dict, sorted(t) of a tuple -/
mutual
/-- no list, no dict within -/
def nlB : PyData → Bool
  | .list _ => false
  | .dict _ => false
  | .tuple ds => nlBs ds
  | _ => true
def nlBs : List PyData → Bool
  | [] => true
  | d :: ds => nlB d && nlBs ds
end
mutual
theorem reads_nl {h : Heap} : ∀ (d : PyData) (v : Value) (as : List Addr), nlB d = true → Reads h v d as → as = []
  | .none, _, _, _, r => by cases r; rfl
  | .bool _, _, _, _, r => by cases r; rfl
  | .int _, _, _, _, r => by cases r; rfl
  | .str _, _, _, _, r => by cases r; rfl
  | .list _, _, _, k, _ => by cases k
  | .dict _, _, _, k, _ => by cases k
  | .tuple ds, _, _, k, r => by
    cases r with
    | tuple _ _ _ rs => exact reads_nls ds _ _ (by rw [nlB] at k; exact k) rs
theorem reads_nls {h : Heap} : ∀ (ds : List PyData) (vs : List Value) (as : List Addr), nlBs ds = true → ReadsAll h vs ds as → as = []
  | [], _, _, _, r => by cases r; rfl
  | d :: ds, _, _, k, r => by
    rw [nlBs, Bool.and_eq_true] at k
    cases r with
    | cons a b => rw [reads_nl d _ _ k.1 a, reads_nls ds _ _ k.2 b]; rfl
end
theorem nlBs_mem : ∀ {ds : List PyData}, nlBs ds = true → ∀ d ∈ ds, nlB d = true
  | d :: ds, h, e, he => by
    rw [nlBs, Bool.and_eq_true] at h
    rcases List.mem_cons.mp he with rfl | he
    · exact h.1
    · exact nlBs_mem h.2 e he
def sortOk (ds : List PyData) : Bool := alikeB ds && sortB ds && (ds.all (fun d => decide (d.depth ≤ 64)) && nlBs ds)
def sortedE : List PyData → Rs (List PyData)
  | [.dict kvs] => if sortOk (kvs.map (·.1)) then .ok ((kvs.map (·.1)).mergeSort (PySem.W.dataLe false id)) else stuck
  | [.tuple ds] => if sortOk ds then .ok (ds.mergeSort (PySem.W.dataLe false id)) else stuck
  | ds => sortedL ds
theorem sortedE_quiet : ∀ x, Quiet (sortedE x) := fun x => by
  unfold sortedE
  split
  · exact ite_quiet ok_quiet stuck_quiet
  · exact ite_quiet ok_quiet stuck_quiet
  · exact sortedL_quiet _
theorem kdl_raw {P : Program} {w : World} {d : Addr} {es : Array DictEntry} {ep : Nat} (lo : (d == sysModules) = false) : PySem.W.KdlSrc P w "dict" d d es.size (fun i v => ∃ hi : i < es.size, v = es[i].key) (fun h => h.DictRaw d es ep) where
  type := fun _ hm => hm.typeIs
  there := fun h hm => by
    obtain ⟨o, ho, _⟩ := hm
    exact ⟨Heap.lt_size ho, Heap.lt_size ho⟩
  keep := fun h h' hm hk => hm.at fun o e => hk d (.inl rfl) o e
  notList := by decide
  notTuple := by decide
  hint := fun A E s Q hm hq => PySem.W.kdl_hint_dict hm.typeIs hq
  iter := fun A s hh hm => by
    obtain ⟨o, ho, hx⟩ := id hm
    exact ⟨_, _, (fun E Q hq => wpAny_pyIter_dict_raw lo hm hq), Walks.rawKeys hh _ d (Nat.ne_of_lt (Heap.lt_size ho)) es ep, ⟨_, Heap.get?_push_size _ rfl, rfl, rfl⟩, hm.at fun o' e => Heap.get?_push_of_some _ e⟩
section
variable {X : Cx} {pins : List (Addr × Obj)} {σ : St} {H : Hp} {s : Shared} {O : Addr → Prop}
/-- what is sorted, when it stands in a new list -/
theorem sort_new {E : Value → Shared → Prop} {vs : List Value} {xs : List V} {ds : List PyData} {Q : VK} (hu : X.A.units + 66 < cLine) (I : Inv X pins σ H s) (rv : Vals xs vs) (r : Reps X.kw H O xs ds) (hz : ds.length ≤ sizeLine) (h : sortOk ds = true) (q : GiveL X.kw H O (.ok (ds.mergeSort (PySem.W.dataLe false id))) Q)
    {Q' : Value → Shared → Prop} (hq : ∀ a s', EP X pins σ Q (.ref a) s' → a = s.heap.objs.size → Q' .none s') :
    wpAny (model X.prog X.w) X.A.in1 (call (.builtin "list.sort") [.ref s.heap.objs.size]) Q' E { s with heap := s.heap.push (seqObj "list" vs.toArray 0) } := by
  unfold sortOk at h
  rw [Bool.and_eq_true, Bool.and_eq_true, Bool.and_eq_true, List.all_eq_true] at h
  have el : xs.length = ds.length := r.length
  have pl := alike_plains (alikeB_iff h.1.1)
  have eR := each_ofP r rv pl
  have hoL : (s.heap.push (seqObj "list" vs.toArray 0)).get? s.heap.objs.size = some (seqObj "list" vs.toArray 0) := Heap.get?_push_size _ rfl
  refine PySem.W.list_sort_data (enc := id) (s := { s with heap := s.heap.push (seqObj "list" vs.toArray 0) }) hoL eR ((PySem.W.each_mem eR).mono fun v d ⟨⟨x, rx, px, pp⟩, hd⟩ => ?_) (by rw [List.map_id]; exact alikeB_iff h.1.1) (by rw [List.map_id]; exact sortB_iff h.1.2) hz
    (fun b hb => by
      have := of_decide_eq_true (h.2.1 b hb)
      show X.A.units + 1 + 1 + b.depth < cLine
      omega) fun out ho eo => ?_
  · obtain ⟨ys, ry, py⟩ := of_each (eo.mono fun v d ⟨x, rx, px, _⟩ => ⟨x, rx, px⟩)
    obtain ⟨ep, he'⟩ := PyProof.Rows.sortedHeap_at (vs := vs) (out := out.toArray) hoL
    have hlen : ys.length ≤ sizeLine := by
      have e1 : ys.length = out.length := ry.length
      omega
    have hn : H s.heap.objs.size = none := I.hok.fresh (Nat.le_refl _)
    refine hq s.heap.objs.size _ ⟨.ref _, upd H s.heap.objs.size (.lst ys), I.laid (t' := s.toks) (fun b u e => ?_) (Nat.le_refl _) ⟨hlen, out, ep, ry, he'⟩, rfl, giveL_lst q py _ hn⟩ rfl
    have hb : b < s.heap.objs.size := Heap.lt_size e
    rw [PyProof.Rows.sortedHeap_old (Nat.ne_of_lt hb) (by rw [size_push']; exact Nat.lt_succ_of_lt hb)]
    exact Heap.get?_push_of_some _ e
  · obtain ⟨as, ra⟩ := Dp.reads I d x v (px.dp pp) rx
    obtain rfl := reads_nl d v as (nlBs_mem h.2.2 d hd) ra
    exact ⟨[], PyProof.Rows.Reads.keeps (fun b o e => Heap.get?_push_of_some _ e) ra, fun z => by cases z⟩
end
section
variable {X : Cx}
theorem call_sortedE (hc : X.calm = true) (hu : X.A.units + 66 < cLine) : CallL X (.builtin "sorted") sortedE := fun pins s σ H vs us Q I rv ⟨O, ds, ok, r, q⟩ => by
  unfold sortedE at q
  split at q
  · rename_i kvs
    split at q
    · rename_i h
      obtain ⟨v, rfl, r1⟩ := reps1 r
      obtain ⟨z, a, rfl, hD⟩ := r1.dct
      rw [Vals.ref1 rv]
      obtain ⟨es, ep, R⟩ := hD.rawD I
      obtain ⟨xs, hv, hr⟩ := R.keys
      refine Calls.call_function_entry kind_sorted plain_sorted entry_sorted (args_sorted1 _) ?_
      unfold Builtin.«sorted»
      refine wpAny_bind (m := checkCount "sorted" 1 1 _) (wpAny_pure ?_)
      refine wpAny_bind (PySem.W.kdu_collect (A := X.A.in1) (kdl_raw R.sys) (I.ok.hd hc) R.raw (by rw [R.size]; exact R.few) fun h' tk acc hk hacc => ?_)
      have ea : acc.toList = es.toList.map (·.key) := by
        apply List.ext_getElem?
        intro j
        by_cases hj : j < es.size
        · have hja : j < acc.size := by rw [hacc.1]; exact hj
          obtain ⟨hi, e1⟩ := hacc.2 j acc[j] (Array.getElem?_eq_getElem hja)
          rw [Array.getElem?_toList, Array.getElem?_eq_getElem hja, List.getElem?_map, Array.getElem?_toList, Array.getElem?_eq_getElem hj, e1]; rfl
        · rw [List.getElem?_eq_none (by rw [Array.length_toList, hacc.1]; omega), List.getElem?_eq_none (by rw [List.length_map, Array.length_toList]; omega)]
      have I1 : Inv X pins σ H { s with heap := h', toks := tk } := I.kept hk
      rw [ea]
      have hkl : (kvs.map (·.1)).length ≤ sizeLine := by rw [List.length_map]; exact R.few
      refine wpAny_bind (wpAny_newList ?_ (by rw [List.length_map, Array.length_toList, R.size]; exact R.few))
      refine wpAny_bind (wpAny_holding (sort_new (s := { s with heap := h', toks := tk }) hu I1 hv hr hkl h q fun b s' hE eb => ?_))
      exact wpAny_pure ⟨_, rfl, eb ▸ hE⟩
    · exact q.elim
  · rename_i ds
    split at q
    · rename_i h
      obtain ⟨v, rfl, r1⟩ := reps1 r
      obtain ⟨a, xs, rfl, hs, hr⟩ := r1.tup
      rw [Vals.ref1 rv]
      obtain ⟨its, r', pl, hz⟩ := I.tuple hs
      have hlen := r'.length
      obtain ⟨o, ho, hc', n, hd⟩ := pl
      refine Calls.call_function_entry kind_sorted plain_sorted entry_sorted (args_sorted1 _) ?_
      unfold Builtin.«sorted»
      refine wpAny_bind (m := checkCount "sorted" 1 1 _) (wpAny_pure ?_)
      refine wpAny_bind (PySem.wpAny_collect_seq (A := X.A.in1) a (.inr rfl) ho hc' hd (fun h' hk => ?_) (by simp only [List.size_toArray] <;> omega))
      have I1 : Inv X pins σ H { s with heap := h', toks := s.toks } := I.kept hk
      have hkl : ds.length ≤ sizeLine := hr.length ▸ hz
      have hvl : its.toArray.toList.length ≤ sizeLine := by
        show its.length ≤ sizeLine
        omega
      refine wpAny_bind (wpAny_newList ?_ hvl)
      refine wpAny_bind (wpAny_holding (sort_new (s := { s with heap := h', toks := s.toks }) hu I1 r' hr hkl h q fun b s' hE eb => ?_))
      exact wpAny_pure ⟨_, rfl, eb ▸ hE⟩
    · exact q.elim
  · exact call_sortedL hu pins s σ H vs us Q I rv ⟨O, _, ok, r, q⟩
end
end Den

set_option Elab.async false
set_option linter.all false
set_option maxRecDepth 100000
set_option maxHeartbeats 4000000
namespace Den
open PySem PySem.Spec PyProof.Rows L2
theorem u9 {k : Nat} {A : Around} (r : Room k A) : A.units + 9 < cLine := by have := r.un; omega
/-! ### {k: v for ..} as a value: it changes no more -/
def unKV (p : Key × PyData) : PyData × PyData := (unKey p.1, p.2)
def dDv (c : DD) : DE := fun ρ => c ρ >>= fun kvs => .ok (.dict (kvs.map unKV))
theorem KVs.repI {K : Kw} {H : Hp} {O : Addr → Prop} : ∀ {ps qs}, KVs K H O ps qs → RepI K H O ps (qs.map unKV)
  | [], _, h => by cases h; exact .nil
  | ⟨k, v⟩ :: ps, _, h => by
    cases h with
    | @cons _ q _ qs a b =>
      obtain ⟨k', d⟩ := q
      obtain ⟨e, r⟩ := a
      cases (show k = k' from e)
      exact .cons r (KVs.repI b)
section
variable {X : Cx} {W : WX} {c : DD} {e : Expr}
theorem re_dcv (he : PE X e (RDc X W c)) : PE X e (RE X W (dDv c)) := ⟨fun pins s σ H Q I ⟨Hb, ρ, O, g, p⟩ => by
  refine thn (he.run pins s σ H (fun v H' => ∃ a kvs ds, v = .ref a ∧ Same H H' ∧ H a = none ∧ H' a = some (.dK kvs) ∧ KVs X.kw H' (fun b => O b ∨ b = a) kvs ds ∧ ∀ x H'', Same H H'' → Rep X.kw H'' O x (.dict (ds.map unKV)) → Q x H'') I
    ⟨Hb, ρ, O, g, p.bind.imp fun ds _ p a kvs H' s n h r => ⟨a, kvs, ds, rfl, s, n, h, r, fun x H'' s2 r2 => p x H'' s2 r2⟩⟩) fun v s1 ⟨x, H1, I1, r1, a, kvs, ds, ex, s', n, h, r, q⟩ => ?_
  subst ex
  obtain ⟨_, _, vs, _, ob, _, _, hob, _⟩ := (show ObjOk X.prog X.w H1 s1.heap a (.dK kvs) from I1.hok a _ h)
  have I2 : Inv X pins σ (upd H1 a (.frz ob (.dK kvs))) s1 := L2.d_write (h' := s1.heap) (t' := s1.toks) I1 (by rw [h]; exact True.intro) ⟨rfl, fun _ _ => rfl⟩ ⟨ob, hob⟩ ⟨hob, (show ObjOk X.prog X.w H1 s1.heap a (.dK kvs) from I1.hok a _ h)⟩
  have nO : ¬ O a := fun o => by
    obtain ⟨w, e1⟩ := g.dom a o
    rw [n] at e1
    cases e1
  have hx : Ext H1 (fun b => O b ∨ b = a) (upd H1 a (.frz ob (.dK kvs))) O := ⟨fun b w hb m => by rw [upd_ne (show b ≠ a from fun z => m (.inr z))]; exact hb, fun b h => .inl (.inl h), fun b w hb => by
    by_cases z : b = a
    · exact ⟨_, by rw [z]; exact upd_same⟩
    · exact ⟨w, by rw [upd_ne z]; exact hb⟩⟩
  refine ⟨.ref a, _, I2, r1, q _ _ (fun b w hb => ?_) (.dct (.k (show Hz _ true a _ from ⟨ob, upd_same⟩) (r.repI.ext hx)) nO)⟩
  rw [upd_ne (ne_of_none hb n)]
  exact s' b w hb⟩
/-- what a new dict's denotation asks of its place -/
theorem rdc_go {σ : St} {H : Hp} {Q : VK} (h : RE X W (dDv c) σ H Q) : RDc X W c σ H (fun v H' => ∃ a kvs ds O, v = .ref a ∧ Same H H' ∧ H a = none ∧ ¬ O a ∧ H' a = some (.dK kvs) ∧ KVs X.kw H' (fun b => O b ∨ b = a) kvs ds ∧ ∀ x H'', Same H H'' → Rep X.kw H'' O x (.dict (ds.map unKV)) → Q x H'') := by
  obtain ⟨Hb, ρ, O, g, p⟩ := h
  have nO : ∀ a, H a = none → ¬ O a := fun a n o => by
    obtain ⟨w, e1⟩ := g.dom a o
    rw [n] at e1
    cases e1
  exact ⟨Hb, ρ, O, g, p.bind.imp fun ds _ p a kvs H' s n h r => ⟨a, kvs, ds, O, rfl, s, n, nO a n, h, r, fun x H'' s2 r2 => p x H'' s2 r2⟩⟩
theorem frz_new {pins : List (Addr × Obj)} {σ : St} {H H1 : Hp} {s1 : Shared} {O : Addr → Prop} {a : Addr} {kvs : List (Key × V)} {ds : List (Key × PyData)} (I1 : Inv X pins σ H1 s1) (t : Same H H1) (n : H a = none) (nO : ¬ O a) (h : H1 a = some (.dK kvs)) (r : KVs X.kw H1 (fun b => O b ∨ b = a) kvs ds) :
    ∃ ob, Inv X pins σ (upd H1 a (.frz ob (.dK kvs))) s1 ∧ Same H (upd H1 a (.frz ob (.dK kvs))) ∧ Rep X.kw (upd H1 a (.frz ob (.dK kvs))) O (.ref a) (.dict (ds.map unKV)) := by
  obtain ⟨_, _, vs, _, ob, _, _, hob, _⟩ := (show ObjOk X.prog X.w H1 s1.heap a (.dK kvs) from I1.hok a _ h)
  have hx : Ext H1 (fun b => O b ∨ b = a) (upd H1 a (.frz ob (.dK kvs))) O := ⟨fun b w hb m => by rw [upd_ne (show b ≠ a from fun z => m (.inr z))]; exact hb, fun b h => .inl (.inl h), fun b w hb => by
    by_cases z : b = a
    · exact ⟨_, by rw [z]; exact upd_same⟩
    · exact ⟨w, by rw [upd_ne z]; exact hb⟩⟩
  refine ⟨ob, L2.d_write (h' := s1.heap) (t' := s1.toks) I1 (by rw [h]; exact True.intro) ⟨rfl, fun _ _ => rfl⟩ ⟨ob, hob⟩ ⟨hob, (show ObjOk X.prog X.w H1 s1.heap a (.dK kvs) from I1.hok a _ h)⟩, fun b w hb => ?_, .dct (.k (show Hz _ true a _ from ⟨ob, upd_same⟩) (r.repI.ext hx)) nO⟩
  rw [upd_ne (ne_of_none hb n)]
  exact t b w hb
variable {G : Gd}
/-- name = {k: v for ..} on one line -/
theorem rs_setDc {it : DL} {t : Tg} {tt : DT} {ek ev : DE} {i : Nat} {y : Str} {py : Pos} {kx vx tg iter : Expr} {ifs : List Expr} {scope : Scope} {own : List (Str × Nat)} {pos spos : Pos} (hc : X.calm = true) (hN : X.N.Nodup) (hy : X.N[i]? = some y) (hyl : X.env.scope.names.lookup y = some .local)
    (hsw : swapsWith (.DictComp kx vx [⟨tg, iter, ifs, 0⟩] scope pos) (some (.Name y py)) spos.line X.env = pure true) (hi : PI X tg iter (RIW X W it)) (ok : BlkOk X.N X.env.scope scope own)
    (hg : ∀ (s : Shared) (H : Hp) (C : Addr) (cl : List (Str × Addr)) (fp : List Addr), PG (X.blk s H scope (compEnvC scope cl C X.env) fp) tg (t.g X.kw)) (ht : ∀ (s : Shared) (H : Hp) (C : Addr) (cl : List (Str × Addr)) (fp : List Addr), PTs (X.blk s H scope (compEnvC scope cl C X.env) fp) ifs (RT (X.blk s H scope (compEnvC scope cl C X.env) fp) W0 tt))
    (hk : ∀ (s : Shared) (H : Hp) (C : Addr) (cl : List (Str × Addr)) (fp : List Addr), PE (X.blk s H scope (compEnvC scope cl C X.env) fp) kx (RE (X.blk s H scope (compEnvC scope cl C X.env) fp) W0 ek))
    (he : ∀ (s : Shared) (H : Hp) (C : Addr) (cl : List (Str × Addr)) (fp : List Addr), PE (X.blk s H scope (compEnvC scope cl C X.env) fp) vx (RE (X.blk s H scope (compEnvC scope cl C X.env) fp) W0 ev)) (hs : ∀ x, foldedSetIterable iter X.env x = pure x := by intro _; rfl) :
    PS X (.Assign [.Name y py] (.DictComp kx vx [⟨tg, iter, ifs, 0⟩] scope pos) spos) (RS X G W (sSet i (dDv (dDc it (own.map (·.2)) t tt ek ev)))) := ⟨fun pins s σ H D I h => by
  have h1 := dc_go (rdc_go (show RE X W (dDv (dDc it (own.map (·.2)) t tt ek ev)) σ H (fun v H1 => gName i v σ H1 D.nx) from set_go h))
  rw [exec_Assign_Name_used _ _ _ _ hsw]
  refine wpAny_bind (wpAny_standAt (wpAny_bind ?_))
  show wpAny _ X.A (comprehension (.DictComp kx vx [⟨tg, iter, ifs, 0⟩] scope pos) scope X.env (firstIterPos [⟨tg, iter, ifs, 0⟩] pos) newDict false (eval iter X.env) (some (assign (.Name y py) X.env)) >>= fun _ => pure ()) _ _ s
  refine wpAny_bind (thn (dc_core (Qf := fun _ s' => SP X pins D .next s') hc hN I hi ok hg ht hk he hs h1 fun L C s' m H' I' q hn f => ?_) fun _ s' hq => wpAny_pure (wpAny_pure hq))
  show wpAny _ _ (assign (.Name y py) X.env (.ref L)) _ _ _
  obtain ⟨a, kvs, ds, O, ea, t', n, nO, ha, r, q⟩ := q
  cases ea
  obtain ⟨ob, I2, t2, r2⟩ := frz_new I' t' n nO ha r
  refine wpAny_assign_Name (store_ok2 (v := V.ref L) I2 hN hy (.inl hyl) rfl (fun s2 I3 ⟨a, sb, ha'⟩ => ?_) (.inr hyl))
  obtain ⟨f0, f1, f2, f3, f4, f5⟩ := f
  have f0' : (upd H' L (.frz ob (.dK kvs))) C = none := by
    rw [upd_ne (fun z => by rw [z, ha] at f0; cases f0)]
    exact f0
  have haC : C ≠ a := by
    rcases ha' with z | z
    · rw [z]; exact f1
    · exact fun e => f4 y a z e.symm
  refine ⟨m, hn.sameBut sb haC, fun h3 sb3 => ?_⟩
  exact ⟨_, _, I3.turned (t' := s2.toks) (fun b o hb e => (sb3.2 b hb).trans e) f0' f1 f3 f4 f5, q _ _ t2 r2⟩⟩
theorem sw_trueD {kx vx : Expr} {gs : List Comprehension} {scope : Scope} {pos py : Pos} {y : Str} {l : Nat} {env : Env} (hk : env.scope.kind = .function) (hy : env.scope.names.lookup y = some .local) (hl : (py.line == pos.line) = true)
    (ha : (scope.names.any fun (n, k) => n == y && (k == .local || k == .cell)) = false) : swapsWith (.DictComp kx vx gs scope pos) (some (.Name y py)) l env = pure true := by
  have k1 : env.kindOf y = some .local := hy
  have k2 : env.blockKind = .function := by unfold Env.blockKind; rw [hk]; rfl
  unfold swapsWith
  simp only [k2, k1, ha, Expr.pos, hl]
  rfl
end
end Den

set_option Elab.async false
set_option linter.all false
set_option maxRecDepth 100000
set_option maxHeartbeats 4000000
namespace Nk53
open PySem PySem.Spec PyProof.Rows L2 Den
def subE : String → String → Option Bool
  | "BadLoads", "BadMost" => some false
  | "BadLoads", "ChestError" => some true
  | "BadMost", "BadMost" => some true
  | "BadMost", "ChestError" => some true
  | "BadSeats", "BadMost" => some false
  | "BadSeats", "ChestError" => some true
  | "BadStowing", "BadMost" => some false
  | "BadStowing", "ChestError" => some true
  | _, _ => none
/-- _law_draws(script, many); slots: 0 script 1 many 2 draws 3 seed 4 cell 5 number 6 k -/
def bd__law_draws : DS :=
  (sSeq (sOwn 2 (dList dNil))
    (sSeq (sSet 3 (dLit (.int 7)))
    (sSeq (sFor (iD (dSl slD (dVarB 0) oNone (oSome (dLit (.int 63))))) (.nm 4) (sSeq (sSet 5 (dCall absD (dCons (dVar 4) dNil)))
    (sSeq (sSet 3 (dOp2 modD (dCall intD (dCons (dOp2 addD (dOp2 addD (dOp2 mulD (dVar 3) (dLit (.int 48271))) (dVar 5)) (dLit (.int 11))) dNil)) (dLit (.int 2147483647))))
    (sIf (tVal (dOp2 geD (dVar 5) (dOp2 powD (dLit (.int 10)) (dLit (.int 18))))) (sFor (dCallL range1D (dCons (dLit (.int 60)) dNil)) (.nm 6) (sIf (tVal (dOp2 gtD (dVar 5) (dLit (.int 0)))) (sSeq (sUpd 2 (dCons (dOp2 modD (dCall intD (dCons (dVar 5) dNil)) (dLit (.int 1009))) dNil) appF)
    (sSet 5 (dOp2 fdivD (dVar 5) (dLit (.int 1009))))) sSkip)) (sUpd 2 (dCons (dOp2 modD (dOp2 fdivD (dCall intD (dCons (dOp2 addD (dOp2 mulD (dVar 3) (dLit (.int 16807))) (dLit (.int 5))) dNil)) (dLit (.int 3))) (dLit (.int 65521))) dNil) appF)))))
    (sSeq (sFor (dCallL range1D (dCons (dVar 1) dNil)) (.nm 6) (sIf (tVal (dOp2 ltD (dCall lenD (dCons (dVarB 2) dNil)) (dVar 1))) (sSeq (sSet 3 (dOp2 modD (dCall intD (dCons (dOp2 addD (dOp2 addD (dOp2 mulD (dVar 3) (dLit (.int 69621))) (dVar 6)) (dLit (.int 1))) dNil)) (dLit (.int 2147483647))))
    (sUpd 2 (dCons (dOp2 modD (dOp2 fdivD (dCall intD (dCons (dVar 3) dNil)) (dLit (.int 7))) (dLit (.int 65521))) dNil) appF)) sSkip))
    (sRet (dSl slD (dVarB 2) oNone (oSome (dVar 1))))))))
def cf__law_draws : List PyData → Rs PyData := fnD [true, false] 7 bd__law_draws
/-- _law_orders(count); slots: 0 count 1 rows 2 k 3 longer 4 row 5 n -/
def bd__law_orders : DS :=
  (sSeq (sSet 1 (dLst (dList (dCons (dTup dNil) dNil))))
    (sSeq (sFor (dCallL range1D (dCons (dVar 0) dNil)) (.nm 2) (sSeq (sSet 3 (dLst (dList dNil)))
    (sSeq (sFor (iD (dVar 1)) (.nm 4) (sSet 3 (dOp2 addD (dVar 3) (dLst (dComp (dCallL range1D (dCons (dVar 0) dNil)) [5] (.nm 5) (tVal (dOp2 notInD (dVar 5) (dVar 4))) (dOp2 addD (dVar 4) (dTup (dCons (dVar 5) dNil))))))))
    (sSet 1 (dVar 3)))))
    (sRet (dVar 1))))
def cf__law_orders : List PyData → Rs PyData := fnD [false] 6 bd__law_orders
/-- _subsets(many); slots: 0 many 1 rows 2 number 3 row 4 _size -/
def bd__subsets : DS :=
  (sSeq (sSet 1 (dLst (dList (dCons (dTup dNil) dNil))))
    (sSeq (sFor (dCallL range1D (dCons (dVar 0) dNil)) (.nm 2) (sSet 1 (dOp2 addD (dVar 1) (dLst (dComp (iD (dVar 1)) [3] (.nm 3) tYesD (dOp2 addD (dVar 3) (dTup (dCons (dVar 2) dNil))))))))
    (sRet (dLst (dComp (iD (dLst (dCallL sortedL (dCons (dLst (dComp (iD (dVar 1)) [3] (.nm 3) tYesD (dTup (dCons (dOp2 subD (dLit (.int 0)) (dCall lenD (dCons (dVar 3) dNil))) (dCons (dVar 3) dNil))))) dNil)))) [4, 3] (.tp [(.nm 4), (.nm 3)]) tYesD (dVar 3))))))
def cf__subsets : List PyData → Rs PyData := fnD [false] 5 bd__subsets
/-- _boarding(loads, stowing, most); slots: 0 loads 1 stowing 2 most 3 good 4 group 5 one 6 rest 7 nexts 8 order -/
def bd__boarding : DS :=
  (sSeq (sNewD 3)
    (sSeq (sFor (iD (dCall cf__subsets (dCons (dCall lenD (dCons (dVar 0) dNil)) dNil))) (.nm 4) (sIf (tVal (dOp2 leD (dCall absD (dCons (dCall sumD (dCons (dLst (dComp (iD (dVar 4)) [5] (.nm 5) tYesD (dOp2 mulD (dOp2 ixD (dVar 0) (dVar 5)) (dOp2 ixD (dVar 1) (dVar 5))))) dNil)) dNil)) (dVar 2))) (sSeq (sSet 6 (dLst (dComp (dCallL range1D (dCons (dCall lenD (dCons (dVar 0) dNil)) dNil)) [5] (.nm 5) (tVal (dOp2 notInD (dVar 5) (dVar 4))) (dVar 5))))
    (sSeq (sSet 7 (dLst (dComp (iD (dVar 6)) [5] (.nm 5) (tVal (dOp2 inE (dCall tupleD (dCons (dLst (dCallL sortedE (dCons (dOp2 addD (dVar 4) (dTup (dCons (dVar 5) dNil))) dNil))) dNil)) (dVarB 3))) (dVar 5))))
    (sIf (tOrD (tVal (dOp2 eqD (dCall lenD (dCons (dVar 6) dNil)) (dLit (.int 0)))) (tVal (dOp2 gtD (dCall lenD (dCons (dVar 7) dNil)) (dLit (.int 0))))) (sPut 3 (dVar 4) (dVar 7)) sSkip))) sSkip))
    (sSeq (sIf (tVal (dOp2 notInE (dTup dNil) (dVarB 3))) (sRet (dLit .none)) sSkip)
    (sSeq (sSet 8 (dTup dNil))
    (sSeq (sWhile 1000 (tVal (dOp2 ltD (dCall lenD (dCons (dVar 8) dNil)) (dCall lenD (dCons (dVar 0) dNil)))) (sSet 8 (dOp2 addD (dVar 8) (dTup (dCons (dOp2 ixD (dOp2 ixE (dVarB 3) (dCall tupleD (dCons (dLst (dCallL sortedE (dCons (dVar 8) dNil))) dNil))) (dLit (.int 0))) dNil)))))
    (sRet (dVar 8)))))))
def cf__boarding : List PyData → Rs PyData := fnD [false, false, false] 9 bd__boarding
/-- ascends(values); slots: 0 values 1 one 2 later -/
def bd_ascends : DS :=
  (sRet (dCall allD (dCons (dLst (dComp (dCallL zipD (dCons (dVar 0) (dCons (dSl slD (dVar 0) (oSome (dLit (.int 1))) oNone) dNil))) [1, 2] (.tp [(.nm 1), (.nm 2)]) tYesD (dOp2 ltD (dVar 1) (dVar 2)))) dNil)))
def cf_ascends : List PyData → Rs PyData := fnD [false] 3 bd_ascends
/-- is_whole(value, least, most); slots: 0 value 1 least 2 most -/
def bd_is_whole : DS :=
  (sRet (dAndV (dIsi "int" (dVar 0)) (dAndV (dNotV (dIsi "bool" (dVar 0))) (dChain leD leD (dVar 1) (dVar 0) (dVar 2)))))
def cf_is_whole : List PyData → Rs PyData := fnD [false, false, false] 3 bd_is_whole
/-- _check(loads, seats); slots: 0 loads 1 seats 2 one -/
def bd__check : DS :=
  (sSeq (sIf (tOrD (tNotD (tVal (dIsi "tuple" (dVar 1)))) (tNotD (tVal (dChain leD leD (dLit (.int 1)) (dCall lenD (dCons (dVar 1) dNil)) (dLit (.int 8)))))) (sRaise "BadSeats") sSkip)
    (sSeq (sIf (tOrD (tNotD (tVal (dCall allD (dCons (dLst (dComp (iD (dVar 1)) [2] (.nm 2) tYesD (dCall cf_is_whole (dCons (dVar 2) (dCons (dOp2 subD (dLit (.int 0)) (dLit (.int 20))) (dCons (dLit (.int 20)) dNil)))))) dNil)))) (tNotD (tVal (dCall cf_ascends (dCons (dVar 1) dNil))))) (sRaise "BadSeats") sSkip)
    (sSeq (sIf (tOrD (tNotD (tVal (dIsi "tuple" (dVar 0)))) (tNotD (tVal (dChain leD leD (dLit (.int 1)) (dCall lenD (dCons (dVar 0) dNil)) (dCall minD (dCons (dLit (.int 6)) (dCons (dCall lenD (dCons (dVar 1) dNil)) dNil))))))) (sRaise "BadLoads") sSkip)
    (sIf (tNotD (tVal (dCall allD (dCons (dLst (dComp (iD (dVar 0)) [2] (.nm 2) tYesD (dCall cf_is_whole (dCons (dVar 2) (dCons (dLit (.int 1)) (dCons (dLit (.int 100)) dNil)))))) dNil)))) (sRaise "BadLoads") sSkip))))
def cf__check : List PyData → Rs PyData := fnD [false, false] 3 bd__check
/-- _check_stowing(loads, seats, stowing); slots: 0 loads 1 seats 2 stowing 3 one -/
def bd__check_stowing : DS :=
  (sSeq (sDrop (dCall cf__check (dCons (dVar 0) (dCons (dVar 1) dNil))))
    (sSeq (sIf (tOrD (tNotD (tVal (dIsi "tuple" (dVar 2)))) (tVal (dOp2 neD (dCall lenD (dCons (dVar 2) dNil)) (dCall lenD (dCons (dVar 0) dNil))))) (sRaise "BadStowing") sSkip)
    (sSeq (sIf (tNotD (tVal (dCall allD (dCons (dLst (dComp (iD (dVar 2)) [3] (.nm 3) tYesD (dAndV (dCall cf_is_whole (dCons (dVar 3) (dCons (dOp2 subD (dLit (.int 0)) (dLit (.int 20))) (dCons (dLit (.int 20)) dNil)))) (dOp2 inD (dVar 3) (dVar 1))))) dNil)))) (sRaise "BadStowing") sSkip)
    (sIf (tVal (dOp2 ltD (dLenDc (dDc (iD (dVar 2)) [3] (.nm 3) tYesD (dVar 3) (dLit (.bool true)))) (dCall lenD (dCons (dVar 2) dNil)))) (sRaise "BadStowing") sSkip))))
def cf__check_stowing : List PyData → Rs PyData := fnD [false, false, false] 4 bd__check_stowing
/-- boarding(loads, seats, stowing, most); slots: 0 loads 1 seats 2 stowing 3 most -/
def bd_boarding : DS :=
  (sSeq (sDrop (dCall cf__check_stowing (dCons (dVar 0) (dCons (dVar 1) (dCons (dVar 2) dNil)))))
    (sSeq (sIf (tNotD (tVal (dCall cf_is_whole (dCons (dVar 3) (dCons (dLit (.int 0)) (dCons (dLit (.int 100000)) dNil)))))) (sRaise "BadMost") sSkip)
    (sRet (dCall cf__boarding (dCons (dVar 0) (dCons (dVar 2) (dCons (dVar 3) dNil)))))))
def cf_boarding : List PyData → Rs PyData := fnD [false, false, false, false] 4 bd_boarding
/-- _law_refused(loads, seats, stowing, most); slots: 0 loads 1 seats 2 stowing 3 most 4 e -/
def bd__law_refused : DS :=
  (sSeq (sTry subE (sDrop (dCall cf_boarding (dCons (dVar 0) (dCons (dVar 1) (dCons (dVar 2) (dCons (dVar 3) dNil)))))) [⟨"ChestError", some 4, (fun n p => sIsi (subE n "BadMost") p (dLit (.bool true)) (dLit (.bool false)))⟩])
    (sRet (dLit (.bool false))))
def cf__law_refused : List PyData → Rs PyData := fnD [false, false, false, false] 5 bd__law_refused
/-- _law_worst(loads, stowing, order); slots: 0 loads 1 stowing 2 order 3 now 4 worst 5 number -/
def bd__law_worst : DS :=
  (sSeq (sTg (.tp [(.nm 3), (.nm 4)]) (dTup (dCons (dLit (.int 0)) (dCons (dLit (.int 0)) dNil))))
    (sSeq (sFor (iD (dVar 2)) (.nm 5) (sSeq (sSet 3 (dOp2 addD (dVar 3) (dOp2 mulD (dOp2 ixD (dVar 0) (dVar 5)) (dOp2 ixD (dVar 1) (dVar 5)))))
    (sSet 4 (dCall maxD (dCons (dVar 4) (dCons (dVar 3) (dCons (dOp2 subD (dLit (.int 0)) (dVar 3)) dNil)))))))
    (sRet (dVar 4))))
def cf__law_worst : List PyData → Rs PyData := fnD [false, false, false] 6 bd__law_worst
/-- steadiest(loads, seats, stowing); slots: 0 loads 1 seats 2 stowing 3 tilts 4 group 5 one 6 most 7 order -/
def bd_steadiest : DS :=
  (sSeq (sDrop (dCall cf__check_stowing (dCons (dVar 0) (dCons (dVar 1) (dCons (dVar 2) dNil)))))
    (sSeq (sSet 3 (dDv (dDc (iD (dCall cf__subsets (dCons (dCall lenD (dCons (dVar 0) dNil)) dNil))) [4] (.nm 4) tYesD (dCall absD (dCons (dCall sumD (dCons (dLst (dComp (iD (dVar 4)) [5] (.nm 5) tYesD (dOp2 mulD (dOp2 ixD (dVar 0) (dVar 5)) (dOp2 ixD (dVar 2) (dVar 5))))) dNil)) dNil)) (dLit (.bool true)))))
    (sSeq (sFor (iD (dLst (dCallL sortedE (dCons (dVar 3) dNil)))) (.nm 6) (sSeq (sSet 7 (dCall cf__boarding (dCons (dVar 0) (dCons (dVar 2) (dCons (dVar 6) dNil)))))
    (sIf (tVal (dOp2 isNotD (dVar 7) (dLit .none))) (sRet (dTup (dCons (dVar 6) (dCons (dVar 7) dNil)))) sSkip)))
    (sRet (dTup (dCons (dLit (.int 0)) (dCons (dTup dNil) dNil)))))))
def cf_steadiest : List PyData → Rs PyData := fnD [false, false, false] 8 bd_steadiest
/-- _tilt(loads, stowing); slots: 0 loads 1 stowing 2 load 3 seat -/
def bd__tilt : DS :=
  (sRet (dCall sumD (dCons (dLst (dComp (dCallL zipD (dCons (dVar 0) (dCons (dVar 1) dNil))) [2, 3] (.tp [(.nm 2), (.nm 3)]) tYesD (dOp2 mulD (dVar 2) (dVar 3)))) dNil)))
def cf__tilt : List PyData → Rs PyData := fnD [false, false] 4 bd__tilt
/-- tilt_of(loads, seats, stowing); slots: 0 loads 1 seats 2 stowing -/
def bd_tilt_of : DS :=
  (sSeq (sDrop (dCall cf__check_stowing (dCons (dVar 0) (dCons (dVar 1) (dCons (dVar 2) dNil)))))
    (sRet (dCall cf__tilt (dCons (dVar 0) (dCons (dVar 2) dNil)))))
def cf_tilt_of : List PyData → Rs PyData := fnD [false, false, false] 3 bd_tilt_of
/-- law(script); slots: 0 script 1 draws 2 turn 3 seats 4 k 5 count 6 loads 7 stowing 8 pair 9 orders 10 worsts 11 order 12 best 13 whole 14 most 15 good 16 worst 17 told 18 now 19 number 20 wrong -/
def s1_law : DS := (sIf (tVal (dOp2 gtD (dCall maxD (dCons (dVar 18) (dCons (dOp2 subD (dLit (.int 0)) (dVar 18)) dNil))) (dVar 14))) (sRet (dLit (.bool false))) sSkip)
def s2_law : DS := (sSet 18 (dOp2 subD (dVar 18) (dOp2 mulD (dOp2 ixD (dVar 6) (dVar 19)) (dOp2 ixD (dVar 7) (dVar 19)))))
def s3_law : DS := (sFor (iD (dSt stD (dVar 17) (oSome (dOp1 negD (dLit (.int 1)))))) (.nm 19) (sSeq s1_law
    s2_law))
def s4_law : DS := (sIf (tVal (dOp2 neD (dVar 18) (dLit (.int 0)))) (sRet (dLit (.bool false))) sSkip)
def s5_law : DS := (sSet 15 (dLst (dComp (iD (dVar 10)) [16, 11] (.tp [(.nm 16), (.nm 11)]) (tVal (dOp2 leD (dVar 16) (dVar 14))) (dVar 11))))
def s6_law : DS := (sSet 17 (dCall cf_boarding (dCons (dVar 6) (dCons (dVar 3) (dCons (dVar 7) (dCons (dVar 14) dNil))))))
def s7_law : DS := (sIf (tVal (dOp2 neD (dVar 17) (dIf (tVal (dOp2 gtD (dCall lenD (dCons (dVar 15) dNil)) (dLit (.int 0)))) (dOp2 ixD (dVar 15) (dLit (.int 0))) (dLit .none)))) (sRet (dLit (.bool false))) sSkip)
def s8_law : DS := (sIf (tVal (dOp2 isNotD (dVar 17) (dLit .none))) (sSeq (sSet 18 (dVar 13))
    (sSeq s3_law
    s4_law)) sSkip)
def s9_law : DS := (sSet 3 (dCall tupleD (dCons (dLst (dSortSet (dLst (dComp (dCallL range1D (dCons (dLit (.int 6)) dNil)) [4] (.nm 4) tYesD (dOp2 subD (dOp2 modD (dCall intD (dCons (dOp2 ixD (dVar 1) (dOp2 modD (dOp2 addD (dOp2 mulD (dLit (.int 7)) (dVar 2)) (dVar 4)) (dLit (.int 60)))) dNil)) (dLit (.int 31))) (dLit (.int 15))))))) dNil)))
def s10_law : DS := (sSet 5 (dCall minD (dCons (dCall lenD (dCons (dVar 3) dNil)) (dCons (dOp2 addD (dLit (.int 1)) (dOp2 modD (dCall intD (dCons (dOp2 ixD (dVar 1) (dOp2 addD (dLit (.int 50)) (dVar 2))) dNil)) (dLit (.int 5)))) dNil))))
def s11_law : DS := (sSet 6 (dCall tupleD (dCons (dLst (dComp (dCallL range1D (dCons (dVar 5) dNil)) [4] (.nm 4) tYesD (dOp2 addD (dLit (.int 1)) (dOp2 modD (dCall intD (dCons (dOp2 ixD (dVar 1) (dOp2 addD (dLit (.int 30)) (dVar 4))) dNil)) (dLit (.int 40)))))) dNil)))
def s12_law : DS := (sSet 7 (dCall tupleD (dCons (dSl slD (dLst (dComp (iD (dLst (dCallL sortedL (dCons (dLst (dComp (dCallL range1D (dCons (dCall lenD (dCons (dVar 3) dNil)) dNil)) [4] (.nm 4) tYesD (dTup (dCons (dCall intD (dCons (dOp2 ixD (dVar 1) (dOp2 modD (dOp2 addD (dOp2 addD (dLit (.int 40)) (dOp2 mulD (dLit (.int 3)) (dVar 4))) (dVar 2)) (dLit (.int 60)))) dNil)) (dCons (dOp2 ixD (dVar 3) (dVar 4)) dNil))))) dNil)))) [8] (.nm 8) tYesD (dOp2 ixD (dVar 8) (dLit (.int 1))))) oNone (oSome (dVar 5))) dNil)))
def s13_law : DS := (sSet 9 (dCall cf__law_orders (dCons (dVar 5) dNil)))
def s14_law : DS := (sSet 10 (dLst (dComp (iD (dVar 9)) [11] (.nm 11) tYesD (dTup (dCons (dCall cf__law_worst (dCons (dVar 6) (dCons (dVar 7) (dCons (dVar 11) dNil)))) (dCons (dVar 11) dNil))))))
def s15_law : DS := (sSet 12 (dCall minD (dCons (dVar 10) dNil)))
def s16_law : DS := (sIf (tVal (dOp2 neD (dCall cf_steadiest (dCons (dVar 6) (dCons (dVar 3) (dCons (dVar 7) dNil)))) (dVar 12))) (sRet (dLit (.bool false))) sSkip)
def s17_law : DS := (sSet 13 (dCall cf_tilt_of (dCons (dVar 6) (dCons (dVar 3) (dCons (dVar 7) dNil)))))
def s18_law : DS := (sFor (iD (dLst (dSortSet (dLst (dList (dCons (dLit (.int 0)) (dCons (dOp2 ixD (dVar 12) (dLit (.int 0))) (dCons (dCall maxD (dCons (dLit (.int 0)) (dCons (dOp2 subD (dOp2 ixD (dVar 12) (dLit (.int 0))) (dLit (.int 1))) dNil))) (dCons (dOp2 addD (dOp2 ixD (dVar 12) (dLit (.int 0))) (dLit (.int 5))) (dCons (dCall maxD (dCons (dVar 13) (dCons (dOp2 subD (dLit (.int 0)) (dVar 13)) dNil))) (dCons (dLit (.int 100000)) (dCons (dOp2 modD (dCall intD (dCons (dOp2 ixD (dVar 1) (dOp2 addD (dLit (.int 20)) (dVar 2))) dNil)) (dLit (.int 400))) dNil)))))))))))) (.nm 14) (sSeq s5_law
    (sSeq s6_law
    (sSeq s7_law
    s8_law))))
def s19_law : DS := (sIf (tNotD (tVal (dCall allD (dCons (dLst (dComp (iD (dLst (dList (dCons (dOp1 negD (dLit (.int 1))) (dCons (dLit (.int 100001)) (dCons (dLit (.bool true)) (dCons (dLit .none) (dCons (dLit (.str "3")) dNil)))))))) [20] (.nm 20) tYesD (dCall cf__law_refused (dCons (dVar 6) (dCons (dVar 3) (dCons (dVar 7) (dCons (dVar 20) dNil))))))) dNil)))) (sRet (dLit (.bool false))) sSkip)
def s20_law : DS := (sSet 1 (dCall cf__law_draws (dCons (dVarB 0) (dCons (dLit (.int 60)) dNil))))
def s21_law : DS := (sFor (dCallL range1D (dCons (dLit (.int 6)) dNil)) (.nm 2) (sSeq s9_law
    (sSeq s10_law
    (sSeq s11_law
    (sSeq s12_law
    (sSeq s13_law
    (sSeq s14_law
    (sSeq s15_law
    (sSeq s16_law
    (sSeq s17_law
    (sSeq s18_law
    s19_law)))))))))))
def s22_law : DS := (sIf (tOrD (tVal (dOp2 neD (dCall cf_steadiest (dCons (dTup (dCons (dLit (.int 5)) (dCons (dLit (.int 5)) (dCons (dLit (.int 2)) dNil)))) (dCons (dTup (dCons (dOp1 negD (dLit (.int 1))) (dCons (dLit (.int 0)) (dCons (dLit (.int 1)) dNil)))) (dCons (dTup (dCons (dOp1 negD (dLit (.int 1))) (dCons (dLit (.int 1)) (dCons (dLit (.int 0)) dNil)))) dNil)))) (dTup (dCons (dLit (.int 5)) (dCons (dTup (dCons (dLit (.int 0)) (dCons (dLit (.int 1)) (dCons (dLit (.int 2)) dNil)))) dNil))))) (tVal (dOp2 isNotD (dCall cf_boarding (dCons (dTup (dCons (dLit (.int 5)) (dCons (dLit (.int 5)) (dCons (dLit (.int 2)) dNil)))) (dCons (dTup (dCons (dOp1 negD (dLit (.int 1))) (dCons (dLit (.int 0)) (dCons (dLit (.int 1)) dNil)))) (dCons (dTup (dCons (dOp1 negD (dLit (.int 1))) (dCons (dLit (.int 1)) (dCons (dLit (.int 0)) dNil)))) (dCons (dLit (.int 4)) dNil))))) (dLit .none)))) (sRet (dLit (.bool false))) sSkip)
def s23_law : DS := (sRet (dAndV (dOp2 eqD (dCall cf_boarding (dCons (dTup (dCons (dLit (.int 5)) (dCons (dLit (.int 5)) dNil))) (dCons (dTup (dCons (dOp1 negD (dLit (.int 2))) (dCons (dLit (.int 2)) (dCons (dLit (.int 3)) dNil)))) (dCons (dTup (dCons (dLit (.int 2)) (dCons (dLit (.int 3)) dNil))) (dCons (dLit (.int 30)) dNil))))) (dTup (dCons (dLit (.int 0)) (dCons (dLit (.int 1)) dNil)))) (dAndV (dOp2 isD (dCall cf_boarding (dCons (dTup (dCons (dLit (.int 5)) (dCons (dLit (.int 5)) dNil))) (dCons (dTup (dCons (dOp1 negD (dLit (.int 2))) (dCons (dLit (.int 2)) (dCons (dLit (.int 3)) dNil)))) (dCons (dTup (dCons (dLit (.int 2)) (dCons (dLit (.int 3)) dNil))) (dCons (dLit (.int 24)) dNil))))) (dLit .none)) (dOp2 eqD (dCall cf_steadiest (dCons (dTup (dCons (dLit (.int 7)) dNil)) (dCons (dTup (dCons (dLit (.int 0)) dNil)) (dCons (dTup (dCons (dLit (.int 0)) dNil)) dNil)))) (dTup (dCons (dLit (.int 0)) (dCons (dTup (dCons (dLit (.int 0)) dNil)) dNil)))))))
def bd_law : DS :=
  (sSeq s20_law
    (sSeq s21_law
    (sSeq s22_law
    s23_law)))
def cf_law : List PyData → Rs PyData := fnD [true] 21 bd_law
end Nk53

set_option Elab.async false
set_option linter.all false
set_option maxRecDepth 100000
set_option maxHeartbeats 4000000
namespace Nk53
open PySem PySem.Spec PyProof.Rows L2 Den
def topS (i : Nat) : Stmt := PySem.Challenge.pw_chestwright_k53_whole_boarding.main.body.getD i (.Pass ⟨0, 0, 0, 0⟩)
structure Txt (K : PySem.W.Frag) (mg : Str → Option Value) where
  a__law_draws : Addr
  d__law_draws : FuncData
  g__law_draws : mg "_law_draws" = some (.ref a__law_draws)
  F__law_draws : Fun K "_law_draws" "_law_draws" (topS 24) a__law_draws d__law_draws
  b__law_draws : Binds K d__law_draws ["script", "many"] []
  a__law_orders : Addr
  d__law_orders : FuncData
  g__law_orders : mg "_law_orders" = some (.ref a__law_orders)
  F__law_orders : Fun K "_law_orders" "_law_orders" (topS 25) a__law_orders d__law_orders
  b__law_orders : Binds K d__law_orders ["count"] []
  a__subsets : Addr
  d__subsets : FuncData
  g__subsets : mg "_subsets" = some (.ref a__subsets)
  F__subsets : Fun K "_subsets" "_subsets" (topS 20) a__subsets d__subsets
  b__subsets : Binds K d__subsets ["many"] []
  a__boarding : Addr
  d__boarding : FuncData
  g__boarding : mg "_boarding" = some (.ref a__boarding)
  F__boarding : Fun K "_boarding" "_boarding" (topS 19) a__boarding d__boarding
  b__boarding : Binds K d__boarding ["loads", "stowing", "most"] []
  a_ascends : Addr
  d_ascends : FuncData
  g_ascends : mg "ascends" = some (.ref a_ascends)
  F_ascends : Fun K "ascends" "ascends" (topS 8) a_ascends d_ascends
  b_ascends : Binds K d_ascends ["values"] []
  a_is_whole : Addr
  d_is_whole : FuncData
  g_is_whole : mg "is_whole" = some (.ref a_is_whole)
  F_is_whole : Fun K "is_whole" "is_whole" (topS 7) a_is_whole d_is_whole
  b_is_whole : Binds K d_is_whole ["value", "least", "most"] []
  a__check : Addr
  d__check : FuncData
  g__check : mg "_check" = some (.ref a__check)
  F__check : Fun K "_check" "_check" (topS 15) a__check d__check
  b__check : Binds K d__check ["loads", "seats"] []
  a__check_stowing : Addr
  d__check_stowing : FuncData
  g__check_stowing : mg "_check_stowing" = some (.ref a__check_stowing)
  F__check_stowing : Fun K "_check_stowing" "_check_stowing" (topS 16) a__check_stowing d__check_stowing
  b__check_stowing : Binds K d__check_stowing ["loads", "seats", "stowing"] []
  a_boarding : Addr
  d_boarding : FuncData
  g_boarding : mg "boarding" = some (.ref a_boarding)
  F_boarding : Fun K "boarding" "boarding" (topS 21) a_boarding d_boarding
  b_boarding : Binds K d_boarding ["loads", "seats", "stowing", "most"] []
  a__law_refused : Addr
  d__law_refused : FuncData
  g__law_refused : mg "_law_refused" = some (.ref a__law_refused)
  F__law_refused : Fun K "_law_refused" "_law_refused" (topS 27) a__law_refused d__law_refused
  b__law_refused : Binds K d__law_refused ["loads", "seats", "stowing", "most"] []
  a__law_worst : Addr
  d__law_worst : FuncData
  g__law_worst : mg "_law_worst" = some (.ref a__law_worst)
  F__law_worst : Fun K "_law_worst" "_law_worst" (topS 26) a__law_worst d__law_worst
  b__law_worst : Binds K d__law_worst ["loads", "stowing", "order"] []
  a_steadiest : Addr
  d_steadiest : FuncData
  g_steadiest : mg "steadiest" = some (.ref a_steadiest)
  F_steadiest : Fun K "steadiest" "steadiest" (topS 22) a_steadiest d_steadiest
  b_steadiest : Binds K d_steadiest ["loads", "seats", "stowing"] []
  a__tilt : Addr
  d__tilt : FuncData
  g__tilt : mg "_tilt" = some (.ref a__tilt)
  F__tilt : Fun K "_tilt" "_tilt" (topS 17) a__tilt d__tilt
  b__tilt : Binds K d__tilt ["loads", "stowing"] []
  a_tilt_of : Addr
  d_tilt_of : FuncData
  g_tilt_of : mg "tilt_of" = some (.ref a_tilt_of)
  F_tilt_of : Fun K "tilt_of" "tilt_of" (topS 18) a_tilt_of d_tilt_of
  b_tilt_of : Binds K d_tilt_of ["loads", "seats", "stowing"] []
  a_law : Addr
  d_law : FuncData
  g_law : mg "law" = some (.ref a_law)
  F_law : Fun K "law" "law" (topS 28) a_law d_law
  b_law : Binds K d_law ["script"] []
  n_range : mg "range" = none
  n_tuple : mg "tuple" = none
  n_int : mg "int" = none
  n_sorted : mg "sorted" = none
  n_set : mg "set" = none
  n_min : mg "min" = none
  n_len : mg "len" = none
  n_max : mg "max" = none
  n_all : mg "all" = none
  n_abs : mg "abs" = none
  n_isinstance : mg "isinstance" = none
  v_MOST_TILT : ∃ t, mg "MOST_TILT" = some (.int (100000) t)
  n_sum : mg "sum" = none
  v_MOST_FAR : ∃ t, mg "MOST_FAR" = some (.int (20) t)
  v_MOST_SEATS : ∃ t, mg "MOST_SEATS" = some (.int (8) t)
  v_MOST_LOADS : ∃ t, mg "MOST_LOADS" = some (.int (6) t)
  v_MOST_HEAVY : ∃ t, mg "MOST_HEAVY" = some (.int (100) t)
  n_zip : mg "zip" = none
  n_bool : mg "bool" = none
  C_BadLoads : Addr
  c_BadLoads : mg "BadLoads" = some (.ref C_BadLoads)
  k_BadLoads : PySem.W.keepIn K (.ref C_BadLoads) = true
  s_BadLoads : PySem.W.subIn K (.ref C_BadLoads) (.type "BaseException") = some true
  t_BadLoads : PySem.W.typeIn K (.ref C_BadLoads) = some (.type "type")
  h_BadLoads : PySem.W.hasDictIn K C_BadLoads = true
  x_BadLoads : PySem.W.excIn K C_BadLoads [.type "ValueError", .type "Exception", .type "BaseException", .type "object"] "ValueError.__new__" = true
  e_BadLoads : ExcC K C_BadLoads
  C_BadMost : Addr
  c_BadMost : mg "BadMost" = some (.ref C_BadMost)
  k_BadMost : PySem.W.keepIn K (.ref C_BadMost) = true
  s_BadMost : PySem.W.subIn K (.ref C_BadMost) (.type "BaseException") = some true
  t_BadMost : PySem.W.typeIn K (.ref C_BadMost) = some (.type "type")
  h_BadMost : PySem.W.hasDictIn K C_BadMost = true
  z_BadMost : PySem.W.subIn K (.ref C_BadMost) (.ref C_BadMost) = some true
  x_BadMost : PySem.W.excIn K C_BadMost [.type "ValueError", .type "Exception", .type "BaseException", .type "object"] "ValueError.__new__" = true
  e_BadMost : ExcC K C_BadMost
  C_BadSeats : Addr
  c_BadSeats : mg "BadSeats" = some (.ref C_BadSeats)
  k_BadSeats : PySem.W.keepIn K (.ref C_BadSeats) = true
  s_BadSeats : PySem.W.subIn K (.ref C_BadSeats) (.type "BaseException") = some true
  t_BadSeats : PySem.W.typeIn K (.ref C_BadSeats) = some (.type "type")
  h_BadSeats : PySem.W.hasDictIn K C_BadSeats = true
  x_BadSeats : PySem.W.excIn K C_BadSeats [.type "ValueError", .type "Exception", .type "BaseException", .type "object"] "ValueError.__new__" = true
  e_BadSeats : ExcC K C_BadSeats
  C_BadStowing : Addr
  c_BadStowing : mg "BadStowing" = some (.ref C_BadStowing)
  k_BadStowing : PySem.W.keepIn K (.ref C_BadStowing) = true
  s_BadStowing : PySem.W.subIn K (.ref C_BadStowing) (.type "BaseException") = some true
  t_BadStowing : PySem.W.typeIn K (.ref C_BadStowing) = some (.type "type")
  h_BadStowing : PySem.W.hasDictIn K C_BadStowing = true
  x_BadStowing : PySem.W.excIn K C_BadStowing [.type "ValueError", .type "Exception", .type "BaseException", .type "object"] "ValueError.__new__" = true
  e_BadStowing : ExcC K C_BadStowing
  C_ChestError : Addr
  c_ChestError : mg "ChestError" = some (.ref C_ChestError)
  k_ChestError : PySem.W.keepIn K (.ref C_ChestError) = true
  s_ChestError : PySem.W.subIn K (.ref C_ChestError) (.type "BaseException") = some true
  t_ChestError : PySem.W.typeIn K (.ref C_ChestError) = some (.type "type")
  h_ChestError : PySem.W.hasDictIn K C_ChestError = true
  z_ChestError : PySem.W.subIn K (.ref C_ChestError) (.ref C_ChestError) = some true
  p_BadLoads_BadMost : PySem.W.subIn K (.ref C_BadLoads) (.ref C_BadMost) = some false
  p_BadLoads_ChestError : PySem.W.subIn K (.ref C_BadLoads) (.ref C_ChestError) = some true
  p_BadMost_BadMost : PySem.W.subIn K (.ref C_BadMost) (.ref C_BadMost) = some true
  p_BadMost_ChestError : PySem.W.subIn K (.ref C_BadMost) (.ref C_ChestError) = some true
  p_BadSeats_BadMost : PySem.W.subIn K (.ref C_BadSeats) (.ref C_BadMost) = some false
  p_BadSeats_ChestError : PySem.W.subIn K (.ref C_BadSeats) (.ref C_ChestError) = some true
  p_BadStowing_BadMost : PySem.W.subIn K (.ref C_BadStowing) (.ref C_BadMost) = some false
  p_BadStowing_ChestError : PySem.W.subIn K (.ref C_BadStowing) (.ref C_ChestError) = some true
section
variable {P : Program} {w : World} {K : PySem.W.Frag} {mg : Str → Option Value} {base : Heap}
theorem Txt.sub_all (T : Txt K mg) : ∀ n m b, subE n m = some b → ∃ C D, mg n = some (.ref C) ∧ mg m = some (.ref D) ∧ PySem.W.exmOne K (.ref C) (.ref D) = some b := by
  intro n m b h
  unfold subE at h
  split at h
  · cases h; exact ⟨_, _, T.c_BadLoads, T.c_BadMost, PySem.W.exm_ref T.s_BadMost T.h_BadMost T.t_BadMost T.p_BadLoads_BadMost⟩
  · cases h; exact ⟨_, _, T.c_BadLoads, T.c_ChestError, PySem.W.exm_ref T.s_ChestError T.h_ChestError T.t_ChestError T.p_BadLoads_ChestError⟩
  · cases h; exact ⟨_, _, T.c_BadMost, T.c_BadMost, PySem.W.exm_ref T.s_BadMost T.h_BadMost T.t_BadMost T.p_BadMost_BadMost⟩
  · cases h; exact ⟨_, _, T.c_BadMost, T.c_ChestError, PySem.W.exm_ref T.s_ChestError T.h_ChestError T.t_ChestError T.p_BadMost_ChestError⟩
  · cases h; exact ⟨_, _, T.c_BadSeats, T.c_BadMost, PySem.W.exm_ref T.s_BadMost T.h_BadMost T.t_BadMost T.p_BadSeats_BadMost⟩
  · cases h; exact ⟨_, _, T.c_BadSeats, T.c_ChestError, PySem.W.exm_ref T.s_ChestError T.h_ChestError T.t_ChestError T.p_BadSeats_ChestError⟩
  · cases h; exact ⟨_, _, T.c_BadStowing, T.c_BadMost, PySem.W.exm_ref T.s_BadMost T.h_BadMost T.t_BadMost T.p_BadStowing_BadMost⟩
  · cases h; exact ⟨_, _, T.c_BadStowing, T.c_ChestError, PySem.W.exm_ref T.s_ChestError T.h_ChestError T.t_ChestError T.p_BadStowing_ChestError⟩
  · cases h
theorem Txt.kit_all (T : Txt K mg) : ∀ n m b, subE n m = some b → ∃ C D, mg n = some (.ref C) ∧ mg m = some (.ref D) ∧ PySem.W.kitOne K (.ref C) (.ref D) = some b ∧ ExcC K C := by
  intro n m b h
  unfold subE at h
  split at h
  · cases h; exact ⟨_, _, T.c_BadLoads, T.c_BadMost, kit_ref T.h_BadMost T.t_BadMost T.z_BadMost T.p_BadLoads_BadMost, T.e_BadLoads⟩
  · cases h; exact ⟨_, _, T.c_BadLoads, T.c_ChestError, kit_ref T.h_ChestError T.t_ChestError T.z_ChestError T.p_BadLoads_ChestError, T.e_BadLoads⟩
  · cases h; exact ⟨_, _, T.c_BadMost, T.c_BadMost, kit_ref T.h_BadMost T.t_BadMost T.z_BadMost T.p_BadMost_BadMost, T.e_BadMost⟩
  · cases h; exact ⟨_, _, T.c_BadMost, T.c_ChestError, kit_ref T.h_ChestError T.t_ChestError T.z_ChestError T.p_BadMost_ChestError, T.e_BadMost⟩
  · cases h; exact ⟨_, _, T.c_BadSeats, T.c_BadMost, kit_ref T.h_BadMost T.t_BadMost T.z_BadMost T.p_BadSeats_BadMost, T.e_BadSeats⟩
  · cases h; exact ⟨_, _, T.c_BadSeats, T.c_ChestError, kit_ref T.h_ChestError T.t_ChestError T.z_ChestError T.p_BadSeats_ChestError, T.e_BadSeats⟩
  · cases h; exact ⟨_, _, T.c_BadStowing, T.c_BadMost, kit_ref T.h_BadMost T.t_BadMost T.z_BadMost T.p_BadStowing_BadMost, T.e_BadStowing⟩
  · cases h; exact ⟨_, _, T.c_BadStowing, T.c_ChestError, kit_ref T.h_ChestError T.t_ChestError T.z_ChestError T.p_BadStowing_ChestError, T.e_BadStowing⟩
  · cases h
theorem Txt.sub {X : Cx} (T : Txt X.K X.mg) : SubOk X subE := T.sub_all
theorem Txt.kit {X : Cx} (T : Txt X.K X.mg) : KitOk X subE := T.kit_all
theorem sc__law_draws : FnScope ["script", "many", "draws", "seed", "cell", "number", "k"] ["script", "many"] (defScope (topS 24)) := ⟨rfl, rfl, rfl, by decide +kernel, rfl, by decide +kernel, by decide +kernel⟩
theorem ok__law_draws {T : Txt K mg} : FnOk P w K mg base (L2.CX P w) 1 T.a__law_draws T.d__law_draws ["script", "many"] (spD (K, w) mg [true, false] cf__law_draws) :=
  fn_ok T.F__law_draws sc__law_draws rfl (by decide) fun cdv A outer s H E G hr =>
    have S := sc__law_draws
    show PSs _ (defBody (topS 24)) (RS _ G (WF E) bd__law_draws) from
    (rs_cons (rs_own (i := 2) S.nd rfl (.inl rfl) (rl_lst ra_nil))
    (rs_cons (rs_set (i := 3) S.nd rfl (.inl rfl) re_int)
    (rs_cons (rs_for (passes_of rfl) rfl (by exact (ri_e (re_sl sl_seqB slD_quiet (rb_var 0) ro_none (ro_some re_int)))) (rg_nm (i := 4) S.nd rfl) (rs_cons (rs_set (i := 5) S.nd rfl (.inl rfl) (re_callB call_absB absD_quiet rfl T.n_abs boot_abs (rab_cons (re_b (re_var 4)) rab_nil)))
    (rs_cons (rs_set (i := 3) S.nd rfl (.inl rfl) (re_op op_modD modD_quiet (re_callTy call_intB intD_quiet rfl T.n_int boot_int (rab_cons (re_b (re_op op_addD addD_quiet (re_op op_addD addD_quiet (re_op op_mulD mulD_quiet (re_var 3) re_int) (re_var 5)) re_int)) rab_nil)) re_int))
    (rs_one (rs_if (rt_cmp op_geB geD_quiet (re_b (re_var 5)) (re_b (re_op op_powD powD_quiet re_int re_int)) (by first | exact nobehind _ (by decide) (by decide) | rfl)) (rs_one (rs_for (passes_of rfl) rfl (by exact (ri_range1 rfl T.n_range (rab_cons (re_b re_int) rab_nil))) (rg_nm (i := 6) S.nd rfl) (rs_one (rs_if (rt_cmp op_gtB gtD_quiet (re_b (re_var 5)) (re_b re_int) (by first | exact nobehind _ (by decide) (by decide) | rfl)) (rs_cons (rs_append (i := 2) rfl (by first | exact Or.inl rfl | exact Or.inr (Or.inl rfl)) (re_op op_modD modD_quiet (re_callTy call_intB intD_quiet rfl T.n_int boot_int (rab_cons (re_b (re_var 5)) rab_nil)) re_int))
    (rs_one (rs_set (i := 5) S.nd rfl (.inl rfl) (re_op op_fdivD fdivD_quiet (re_var 5) re_int)))) rs_nil)))) (rs_one (rs_append (i := 2) rfl (by first | exact Or.inl rfl | exact Or.inr (Or.inl rfl)) (re_op op_modD modD_quiet (re_op op_fdivD fdivD_quiet (re_callTy call_intB intD_quiet rfl T.n_int boot_int (rab_cons (re_b (re_op op_addD addD_quiet (re_op op_mulD mulD_quiet (re_var 3) re_int) re_int)) rab_nil)) re_int) re_int))))))))
    (rs_cons (rs_for (passes_of rfl) rfl (by exact (ri_range1 rfl T.n_range (rab_cons (re_b (re_var 1)) rab_nil))) (rg_nm (i := 6) S.nd rfl) (rs_one (rs_if (rt_cmp (op_ltB (u64 hr)) ltD_quiet (re_b (re_callB call_lenB lenD_quiet rfl T.n_len boot_len (rab_cons (rb_var 2) rab_nil))) (re_b (re_var 1)) (by first | exact nobehind _ (by decide) (by decide) | rfl)) (rs_cons (rs_set (i := 3) S.nd rfl (.inl rfl) (re_op op_modD modD_quiet (re_callTy call_intB intD_quiet rfl T.n_int boot_int (rab_cons (re_b (re_op op_addD addD_quiet (re_op op_addD addD_quiet (re_op op_mulD mulD_quiet (re_var 3) re_int) (re_var 6)) re_int)) rab_nil)) re_int))
    (rs_one (rs_append (i := 2) rfl (by first | exact Or.inl rfl | exact Or.inr (Or.inl rfl)) (re_op op_modD modD_quiet (re_op op_fdivD fdivD_quiet (re_callTy call_intB intD_quiet rfl T.n_int boot_int (rab_cons (re_b (re_var 3)) rab_nil)) re_int) re_int)))) rs_nil)))
    (rs_one (rs_ret (re_sl sl_seqB slD_quiet (rb_var 2) ro_none (ro_some (re_var 1)))))))))
theorem sc__law_orders : FnScope ["count", "rows", "k", "longer", "row", "n"] ["count"] (defScope (topS 25)) := ⟨rfl, rfl, rfl, by decide +kernel, rfl, by decide +kernel, by decide +kernel⟩
theorem ok__law_orders {T : Txt K mg} : FnOk P w K mg base (L2.CX P w) 1 T.a__law_orders T.d__law_orders ["count"] (spD (K, w) mg [false] cf__law_orders) :=
  fn_ok T.F__law_orders sc__law_orders rfl (by decide) fun cdv A outer s H E G hr =>
    have S := sc__law_orders
    show PSs _ (defBody (topS 25)) (RS _ G (WF E) bd__law_orders) from
    (rs_cons (rs_set (i := 1) S.nd rfl (.inl rfl) (rl_e (rl_lst (ra_cons (re_tup ra_nil) ra_nil))))
    (rs_cons (rs_for (passes_of rfl) rfl (by exact (ri_range1 rfl T.n_range (rab_cons (re_b (re_var 0)) rab_nil))) (rg_nm (i := 2) S.nd rfl) (rs_cons (rs_set (i := 3) S.nd rfl (.inl rfl) (rl_e (rl_lst ra_nil)))
    (rs_cons (rs_for (passes_of rfl) rfl (by exact (ri_e (re_var 1))) (rg_nm (i := 4) S.nd rfl) (rs_one (rs_set (i := 3) S.nd rfl (.inl rfl) (re_op op_addD addD_quiet (re_var 3) (rl_e (rl_lc rfl S.nd (by exact (ri_w (ri_range1 rfl T.n_range (rab_cons (re_b (re_var 0)) rab_nil)))) (blkOk_by (own := [("n", 5)]) (by kernel_rfl)) (fun _ _ _ _ _ => (rg_nm (i := 5) S.nd rfl)) (fun _ _ _ _ _ => (rts_one (rt_cmp (op_notInB (u65 hr)) notInD_quiet (re_b (re_var 5)) (re_b (re_var 4)) (by first | exact nobehind _ (by decide) (by decide) | rfl)))) (fun _ _ _ _ _ => (re_op op_addD addD_quiet (re_var 4) (re_tup (ra_cons (re_var 5) ra_nil))))))))))
    (rs_one (rs_set (i := 1) S.nd rfl (.inl rfl) (re_var 3))))))
    (rs_one (rs_ret (re_var 1)))))
theorem sc__subsets : FnScope ["many", "rows", "number", "row", "_size"] ["many"] (defScope (topS 20)) := ⟨rfl, rfl, rfl, by decide +kernel, rfl, by decide +kernel, by decide +kernel⟩
theorem ok__subsets {T : Txt K mg} : FnOk P w K mg base (L2.CX P w) 1 T.a__subsets T.d__subsets ["many"] (spD (K, w) mg [false] cf__subsets) :=
  fn_ok T.F__subsets sc__subsets rfl (by decide) fun cdv A outer s H E G hr =>
    have S := sc__subsets
    show PSs _ (defBody (topS 20)) (RS _ G (WF E) bd__subsets) from
    (rs_cons (rs_set (i := 1) S.nd rfl (.inl rfl) (rl_e (rl_lst (ra_cons (re_tup ra_nil) ra_nil))))
    (rs_cons (rs_for (passes_of rfl) rfl (by exact (ri_range1 rfl T.n_range (rab_cons (re_b (re_var 0)) rab_nil))) (rg_nm (i := 2) S.nd rfl) (rs_one (rs_set (i := 1) S.nd rfl (.inl rfl) (re_op op_addD addD_quiet (re_var 1) (rl_e (rl_lc rfl S.nd (by exact (riw_b (re_b (re_var 1)))) (blkOk_by (own := [("row", 3)]) (by kernel_rfl)) (fun _ _ _ _ _ => (rg_nm (i := 3) S.nd rfl)) (fun _ _ _ _ _ => rts_nil) (fun _ _ _ _ _ => (re_op op_addD addD_quiet (re_var 3) (re_tup (ra_cons (re_var 2) ra_nil))))))))))
    (rs_one (rs_ret (rl_e (rl_lc rfl S.nd (by exact (riw_b (re_b (rl_e (rl_callB (call_sortedL (u66 hr)) sortedL_quiet rfl T.n_sorted boot_sorted (rab_cons (re_b (rl_e (rl_lc rfl S.nd (by exact (riw_b (re_b (re_var 1)))) (blkOk_by (own := [("row", 3)]) (by kernel_rfl)) (fun _ _ _ _ _ => (rg_nm (i := 3) S.nd rfl)) (fun _ _ _ _ _ => rts_nil) (fun _ _ _ _ _ => (re_tup (ra_cons (re_op op_subD subD_quiet re_int (re_callB call_lenB lenD_quiet rfl T.n_len boot_len (rab_cons (re_b (re_var 3)) rab_nil))) (ra_cons (re_var 3) ra_nil))))))) rab_nil)))))) (blkOk_by (own := [("_size", 4), ("row", 3)]) (by kernel_rfl)) (fun _ _ _ _ _ => (rg_tp rfl (rgs_cons (rg_nm (i := 4) S.nd rfl) (rgs_cons (rg_nm (i := 3) S.nd rfl) rgs_nil)))) (fun _ _ _ _ _ => rts_nil) (fun _ _ _ _ _ => (re_var 3))))))))
theorem sc__boarding : FnScope ["loads", "stowing", "most", "good", "group", "one", "rest", "nexts", "order"] ["loads", "stowing", "most"] (defScope (topS 19)) := ⟨rfl, rfl, rfl, by decide +kernel, rfl, by decide +kernel, by decide +kernel⟩
theorem ok__boarding {T : Txt K mg} : FnOk P w K mg base (L2.CX P w) 2 T.a__boarding T.d__boarding ["loads", "stowing", "most"] (spD (K, w) mg [false, false, false] cf__boarding) :=
  fn_ok T.F__boarding sc__boarding rfl (by decide) fun cdv A outer s H E G hr =>
    have S := sc__boarding
    show PSs _ (defBody (topS 19)) (RS _ G (WF E) bd__boarding) from
    (rs_cons (rs_newD (i := 3) S.nd rfl (.inr rfl))
    (rs_cons (rs_for (passes_of rfl) rfl (by exact (ri_e (re_call (ok__subsets (T := T)) (hr.mono (by decide)) rfl T.g__subsets T.F__subsets.kp T.b__subsets (takes_of rfl rfl rfl rfl) (ram_cons (re_callB call_lenB lenD_quiet rfl T.n_len boot_len (rab_cons (re_b (re_var 0)) rab_nil)) ram_nil)))) (rg_nm (i := 4) S.nd rfl) (rs_one (rs_if (rt_cmp op_leB leD_quiet (re_b (re_callB call_absB absD_quiet rfl T.n_abs boot_abs (rab_cons (re_b (re_callB (call_sumB rfl) sumD_quiet rfl T.n_sum boot_sum (rab_cons (re_b (rl_e (rl_lc rfl S.nd (by exact (riw_b (re_b (re_var 4)))) (blkOk_by (own := [("one", 5)]) (by kernel_rfl)) (fun _ _ _ _ _ => (rg_nm (i := 5) S.nd rfl)) (fun _ _ _ _ _ => rts_nil) (fun _ _ _ _ _ => (re_op op_mulD mulD_quiet (re_ix ix_seqB ixD_quiet (re_b (re_var 0)) (re_b (re_var 5)) (fun _ _ => rfl)) (re_ix ix_seqB ixD_quiet (re_b (re_var 1)) (re_b (re_var 5)) (fun _ _ => rfl))))))) rab_nil))) rab_nil))) (re_b (re_var 2)) (by first | exact nobehind _ (by decide) (by decide) | rfl)) (rs_cons (rs_setLc (i := 6) rfl S.nd rfl rfl rfl (by exact (ri_w (ri_range1 rfl T.n_range (rab_cons (re_b (re_callB call_lenB lenD_quiet rfl T.n_len boot_len (rab_cons (re_b (re_var 0)) rab_nil))) rab_nil)))) (blkOk_by (own := [("one", 5)]) (by kernel_rfl)) (fun _ _ _ _ _ => (rg_nm (i := 5) S.nd rfl)) (fun _ _ _ _ _ => (rts_one (rt_cmp (op_notInB (u65 hr)) notInD_quiet (re_b (re_var 5)) (re_b (re_var 4)) (by first | exact nobehind _ (by decide) (by decide) | rfl)))) (fun _ _ _ _ _ => (re_var 5)))
    (rs_cons (rs_setLc (i := 7) rfl S.nd rfl rfl rfl (by exact (riw_b (re_b (re_var 6)))) (blkOk_by (own := [("one", 5)]) (by kernel_rfl)) (fun _ _ _ _ _ => (rg_nm (i := 5) S.nd rfl)) (fun _ _ _ _ _ => (rts_one (rt_cmp (op_inE (u65 hr)) inE_quiet (re_b (re_callTy call_tupleB tupleD_quiet rfl T.n_tuple boot_tuple (rab_cons (re_b (rl_e (rl_callB (call_sortedE rfl (u66 hr)) sortedE_quiet rfl T.n_sorted boot_sorted (rab_cons (re_b (re_op op_addD addD_quiet (re_var 4) (re_tup (ra_cons (re_var 5) ra_nil)))) rab_nil)))) rab_nil))) (rb_var 3) (by first | exact nobehind _ (by decide) (by decide) | rfl)))) (fun _ _ _ _ _ => (re_var 5)))
    (rs_one (rs_if (rt_w (rw_or (rt_cmp (op_eqB (u64 hr)) eqD_quiet (re_b (re_callB call_lenB lenD_quiet rfl T.n_len boot_len (rab_cons (re_b (re_var 6)) rab_nil))) (re_b re_int) (by first | exact nobehind _ (by decide) (by decide) | rfl)) (rw_or1 (rt_cmp op_gtB gtD_quiet (re_b (re_callB call_lenB lenD_quiet rfl T.n_len boot_len (rab_cons (re_b (re_var 7)) rab_nil))) (re_b re_int) (by first | exact nobehind _ (by decide) (by decide) | rfl))))) (rs_one (rs_put (i := 3) (u9 hr) rfl (by first | exact Or.inl rfl | exact Or.inr (Or.inl rfl)) (re_var 4) (re_var 7))) rs_nil)))) rs_nil)))
    (rs_cons (rs_if (rt_cmp (op_notInE (u65 hr)) notInE_quiet (re_b (re_tup ra_nil)) (rb_var 3) (by first | exact nobehind _ (by decide) (by decide) | rfl)) (rs_one (rs_ret re_non)) rs_nil)
    (rs_cons (rs_set (i := 8) S.nd rfl (.inl rfl) (re_tup ra_nil))
    (rs_cons (rs_while 1000 (passes_of rfl) (rt_cmp (op_ltB (u64 hr)) ltD_quiet (re_b (re_callB call_lenB lenD_quiet rfl T.n_len boot_len (rab_cons (re_b (re_var 8)) rab_nil))) (re_b (re_callB call_lenB lenD_quiet rfl T.n_len boot_len (rab_cons (re_b (re_var 0)) rab_nil))) (by first | exact nobehind _ (by decide) (by decide) | rfl)) (rs_one (rs_set (i := 8) S.nd rfl (.inl rfl) (re_op op_addD addD_quiet (re_var 8) (re_tup (ra_cons (re_ix ix_seqB ixD_quiet (re_b (re_ix (ix_E (u9 hr)) ixE_quiet (rb_var 3) (re_b (re_callTy call_tupleB tupleD_quiet rfl T.n_tuple boot_tuple (rab_cons (re_b (rl_e (rl_callB (call_sortedE rfl (u66 hr)) sortedE_quiet rfl T.n_sorted boot_sorted (rab_cons (re_b (re_var 8)) rab_nil)))) rab_nil))) (fun _ _ => rfl))) (re_b re_int) (fun _ _ => rfl)) ra_nil))))))
    (rs_one (rs_ret (re_var 8))))))))
theorem sc_ascends : FnScope ["values", "one", "later"] ["values"] (defScope (topS 8)) := ⟨rfl, rfl, rfl, by decide +kernel, rfl, by decide +kernel, by decide +kernel⟩
theorem ok_ascends {T : Txt K mg} : FnOk P w K mg base (L2.CX P w) 1 T.a_ascends T.d_ascends ["values"] (spD (K, w) mg [false] cf_ascends) :=
  fn_ok T.F_ascends sc_ascends rfl (by decide) fun cdv A outer s H E G hr =>
    have S := sc_ascends
    show PSs _ (defBody (topS 8)) (RS _ G (WF E) bd_ascends) from
    (rs_one (rs_ret (re_callB (call_allB rfl) allD_quiet rfl T.n_all boot_all (rab_cons (re_b (rl_e (rl_lc rfl S.nd (by exact (ri_w (ri_zip rfl T.n_zip (ra_cons (re_var 0) (ra_cons (re_sl sl_seqB slD_quiet (re_b (re_var 0)) (ro_some re_int) ro_none) ra_nil))))) (blkOk_by (own := [("one", 1), ("later", 2)]) (by kernel_rfl)) (fun _ _ _ _ _ => (rg_tp rfl (rgs_cons (rg_nm (i := 1) S.nd rfl) (rgs_cons (rg_nm (i := 2) S.nd rfl) rgs_nil)))) (fun _ _ _ _ _ => rts_nil) (fun _ _ _ _ _ => (re_cmp (op_ltB (u64 hr)) ltD_quiet (re_b (re_var 1)) (re_b (re_var 2)) (by first | exact nobehind _ (by decide) (by decide) | rfl)))))) rab_nil))))
theorem sc_is_whole : FnScope ["value", "least", "most"] ["value", "least", "most"] (defScope (topS 7)) := ⟨rfl, rfl, rfl, by decide +kernel, rfl, by decide +kernel, by decide +kernel⟩
theorem ok_is_whole {T : Txt K mg} : FnOk P w K mg base (L2.CX P w) 1 T.a_is_whole T.d_is_whole ["value", "least", "most"] (spD (K, w) mg [false, false, false] cf_is_whole) :=
  fn_ok T.F_is_whole sc_is_whole rfl (by decide) fun cdv A outer s H E G hr =>
    have S := sc_is_whole
    show PSs _ (defBody (topS 7)) (RS _ G (WF E) bd_is_whole) from
    (rs_one (rs_ret (re_and (re_isi rfl rfl T.n_isinstance (re_b (re_var 0)) rfl T.n_int boot_int) (re_and (re_not (re_isi rfl rfl T.n_isinstance (re_b (re_var 0)) rfl T.n_bool boot_bool)) (re_one (re_chain op_leB op_leB leD_quiet leD_quiet (re_b (re_var 1)) (re_b (re_var 0)) (re_b (re_var 2))))))))
theorem sc__check : FnScope ["loads", "seats", "one"] ["loads", "seats"] (defScope (topS 15)) := ⟨rfl, rfl, rfl, by decide +kernel, rfl, by decide +kernel, by decide +kernel⟩
theorem ok__check {T : Txt K mg} : FnOk P w K mg base (L2.CX P w) 2 T.a__check T.d__check ["loads", "seats"] (spD (K, w) mg [false, false] cf__check) :=
  fn_ok T.F__check sc__check rfl (by decide) fun cdv A outer s H E G hr =>
    have S := sc__check
    show PSs _ (defBody (topS 15)) (RS _ G (WF E) bd__check) from
    (rs_cons (rs_if (rt_w (rw_or (rt_not (rt_val (re_isi rfl rfl T.n_isinstance (re_b (re_var 1)) rfl T.n_tuple boot_tuple))) (rw_or1 (rt_not (rt_chain op_leB op_leB leD_quiet leD_quiet (re_b re_int) (re_b (re_callB call_lenB lenD_quiet rfl T.n_len boot_len (rab_cons (re_b (re_var 1)) rab_nil))) (re_b (re_globI rfl T.v_MOST_SEATS))))))) (rs_one (rs_raise rfl (takes_of rfl rfl rfl rfl) (pmk_own PySem.F.excBase_ValueError T.x_BadSeats T.c_BadSeats T.k_BadSeats (raises_own T.s_BadSeats T.t_BadSeats) rfl) T.c_BadSeats)) rs_nil)
    (rs_cons (rs_if (rt_w (rw_or (rt_not (rt_val (re_callB (call_allB rfl) allD_quiet rfl T.n_all boot_all (rab_cons (re_b (rl_e (rl_lc rfl S.nd (by exact (riw_b (re_b (re_var 1)))) (blkOk_by (own := [("one", 2)]) (by kernel_rfl)) (fun _ _ _ _ _ => (rg_nm (i := 2) S.nd rfl)) (fun _ _ _ _ _ => rts_nil) (fun _ _ _ _ _ => (re_call (ok_is_whole (T := T)) (hr.mono (by decide)) rfl T.g_is_whole T.F_is_whole.kp T.b_is_whole takes0 (ram_cons (re_var 2) (ram_cons (re_op op_subD subD_quiet re_int (re_globI rfl T.v_MOST_FAR)) (ram_cons (re_globI rfl T.v_MOST_FAR) ram_nil)))))))) rab_nil)))) (rw_or1 (rt_not (rt_val (re_call (ok_ascends (T := T)) (hr.mono (by decide)) rfl T.g_ascends T.F_ascends.kp T.b_ascends (takes_of rfl rfl rfl rfl) (ram_cons (re_var 1) ram_nil))))))) (rs_one (rs_raise rfl (takes_of rfl rfl rfl rfl) (pmk_own PySem.F.excBase_ValueError T.x_BadSeats T.c_BadSeats T.k_BadSeats (raises_own T.s_BadSeats T.t_BadSeats) rfl) T.c_BadSeats)) rs_nil)
    (rs_cons (rs_if (rt_w (rw_or (rt_not (rt_val (re_isi rfl rfl T.n_isinstance (re_b (re_var 0)) rfl T.n_tuple boot_tuple))) (rw_or1 (rt_not (rt_chain op_leB op_leB leD_quiet leD_quiet (re_b re_int) (re_b (re_callB call_lenB lenD_quiet rfl T.n_len boot_len (rab_cons (re_b (re_var 0)) rab_nil))) (re_b (re_callB (call_minB rfl (u65 hr)) minD_quiet rfl T.n_min boot_min (rab_cons (re_b (re_globI rfl T.v_MOST_LOADS)) (rab_cons (re_b (re_callB call_lenB lenD_quiet rfl T.n_len boot_len (rab_cons (re_b (re_var 1)) rab_nil))) rab_nil))))))))) (rs_one (rs_raise rfl (takes_of rfl rfl rfl rfl) (pmk_own PySem.F.excBase_ValueError T.x_BadLoads T.c_BadLoads T.k_BadLoads (raises_own T.s_BadLoads T.t_BadLoads) rfl) T.c_BadLoads)) rs_nil)
    (rs_one (rs_if (rt_not (rt_val (re_callB (call_allB rfl) allD_quiet rfl T.n_all boot_all (rab_cons (re_b (rl_e (rl_lc rfl S.nd (by exact (riw_b (re_b (re_var 0)))) (blkOk_by (own := [("one", 2)]) (by kernel_rfl)) (fun _ _ _ _ _ => (rg_nm (i := 2) S.nd rfl)) (fun _ _ _ _ _ => rts_nil) (fun _ _ _ _ _ => (re_call (ok_is_whole (T := T)) (hr.mono (by decide)) rfl T.g_is_whole T.F_is_whole.kp T.b_is_whole takes0 (ram_cons (re_var 2) (ram_cons re_int (ram_cons (re_globI rfl T.v_MOST_HEAVY) ram_nil)))))))) rab_nil)))) (rs_one (rs_raise rfl (takes_of rfl rfl rfl rfl) (pmk_own PySem.F.excBase_ValueError T.x_BadLoads T.c_BadLoads T.k_BadLoads (raises_own T.s_BadLoads T.t_BadLoads) rfl) T.c_BadLoads)) rs_nil)))))
theorem sc__check_stowing : FnScope ["loads", "seats", "stowing", "one"] ["loads", "seats", "stowing"] (defScope (topS 16)) := ⟨rfl, rfl, rfl, by decide +kernel, rfl, by decide +kernel, by decide +kernel⟩
theorem ok__check_stowing {T : Txt K mg} : FnOk P w K mg base (L2.CX P w) 3 T.a__check_stowing T.d__check_stowing ["loads", "seats", "stowing"] (spD (K, w) mg [false, false, false] cf__check_stowing) :=
  fn_ok T.F__check_stowing sc__check_stowing rfl (by decide) fun cdv A outer s H E G hr =>
    have S := sc__check_stowing
    show PSs _ (defBody (topS 16)) (RS _ G (WF E) bd__check_stowing) from
    (rs_cons (rs_expr (re_call (ok__check (T := T)) (hr.mono (by decide)) rfl T.g__check T.F__check.kp T.b__check (takes_of rfl rfl rfl rfl) (ram_cons (re_var 0) (ram_cons (re_var 1) ram_nil))))
    (rs_cons (rs_if (rt_w (rw_or (rt_not (rt_val (re_isi rfl rfl T.n_isinstance (re_b (re_var 2)) rfl T.n_tuple boot_tuple))) (rw_or1 (rt_cmp (op_neB (u64 hr)) neD_quiet (re_b (re_callB call_lenB lenD_quiet rfl T.n_len boot_len (rab_cons (re_b (re_var 2)) rab_nil))) (re_b (re_callB call_lenB lenD_quiet rfl T.n_len boot_len (rab_cons (re_b (re_var 0)) rab_nil))) (by first | exact nobehind _ (by decide) (by decide) | rfl))))) (rs_one (rs_raise rfl (takes_of rfl rfl rfl rfl) (pmk_own PySem.F.excBase_ValueError T.x_BadStowing T.c_BadStowing T.k_BadStowing (raises_own T.s_BadStowing T.t_BadStowing) rfl) T.c_BadStowing)) rs_nil)
    (rs_cons (rs_if (rt_not (rt_val (re_callB (call_allB rfl) allD_quiet rfl T.n_all boot_all (rab_cons (re_b (rl_e (rl_lc rfl S.nd (by exact (riw_b (re_b (re_var 2)))) (blkOk_by (own := [("one", 3)]) (by kernel_rfl)) (fun _ _ _ _ _ => (rg_nm (i := 3) S.nd rfl)) (fun _ _ _ _ _ => rts_nil) (fun _ _ _ _ _ => (re_and (re_call (ok_is_whole (T := T)) (hr.mono (by decide)) rfl T.g_is_whole T.F_is_whole.kp T.b_is_whole takes0 (ram_cons (re_var 3) (ram_cons (re_op op_subD subD_quiet re_int (re_globI rfl T.v_MOST_FAR)) (ram_cons (re_globI rfl T.v_MOST_FAR) ram_nil)))) (re_one (re_cmp (op_inB (u65 hr)) inD_quiet (re_b (re_var 3)) (re_b (re_var 1)) (by first | exact nobehind _ (by decide) (by decide) | rfl)))))))) rab_nil)))) (rs_one (rs_raise rfl (takes_of rfl rfl rfl rfl) (pmk_own PySem.F.excBase_ValueError T.x_BadStowing T.c_BadStowing T.k_BadStowing (raises_own T.s_BadStowing T.t_BadStowing) rfl) T.c_BadStowing)) rs_nil)
    (rs_one (rs_if (rt_cmp (op_ltB (u64 hr)) ltD_quiet (re_b (re_lenDc rfl T.n_len (rd_dc rfl S.nd (by exact (riw_b (re_b (re_var 2)))) (blkOk_by (own := [("one", 3)]) (by kernel_rfl)) (fun _ _ _ _ _ => (rg_nm (i := 3) S.nd rfl)) (fun _ _ _ _ _ => rts_nil) (fun _ _ _ _ _ => (re_var 3)) (fun _ _ _ _ _ => re_bl)))) (re_b (re_callB call_lenB lenD_quiet rfl T.n_len boot_len (rab_cons (re_b (re_var 2)) rab_nil))) (by first | exact nobehind _ (by decide) (by decide) | rfl)) (rs_one (rs_raise rfl (takes_of rfl rfl rfl rfl) (pmk_own PySem.F.excBase_ValueError T.x_BadStowing T.c_BadStowing T.k_BadStowing (raises_own T.s_BadStowing T.t_BadStowing) rfl) T.c_BadStowing)) rs_nil)))))
theorem sc_boarding : FnScope ["loads", "seats", "stowing", "most"] ["loads", "seats", "stowing", "most"] (defScope (topS 21)) := ⟨rfl, rfl, rfl, by decide +kernel, rfl, by decide +kernel, by decide +kernel⟩
theorem ok_boarding {T : Txt K mg} : FnOk P w K mg base (L2.CX P w) 4 T.a_boarding T.d_boarding ["loads", "seats", "stowing", "most"] (spD (K, w) mg [false, false, false, false] cf_boarding) :=
  fn_ok T.F_boarding sc_boarding rfl (by decide) fun cdv A outer s H E G hr =>
    have S := sc_boarding
    show PSs _ (defBody (topS 21)) (RS _ G (WF E) bd_boarding) from
    (rs_cons (rs_expr (re_call (ok__check_stowing (T := T)) (hr.mono (by decide)) rfl T.g__check_stowing T.F__check_stowing.kp T.b__check_stowing (takes_of rfl rfl rfl rfl) (ram_cons (re_var 0) (ram_cons (re_var 1) (ram_cons (re_var 2) ram_nil)))))
    (rs_cons (rs_if (rt_not (rt_val (re_call (ok_is_whole (T := T)) (hr.mono (by decide)) rfl T.g_is_whole T.F_is_whole.kp T.b_is_whole (takes_of rfl rfl rfl rfl) (ram_cons (re_var 3) (ram_cons re_int (ram_cons (re_globI rfl T.v_MOST_TILT) ram_nil)))))) (rs_one (rs_raise rfl (takes_of rfl rfl rfl rfl) (pmk_own PySem.F.excBase_ValueError T.x_BadMost T.c_BadMost T.k_BadMost (raises_own T.s_BadMost T.t_BadMost) rfl) T.c_BadMost)) rs_nil)
    (rs_one (rs_ret (re_call (ok__boarding (T := T)) (hr.mono (by decide)) rfl T.g__boarding T.F__boarding.kp T.b__boarding (takes_of rfl rfl rfl rfl) (ram_cons (re_var 0) (ram_cons (re_var 2) (ram_cons (re_var 3) ram_nil))))))))
theorem sc__law_refused : FnScope ["loads", "seats", "stowing", "most", "e"] ["loads", "seats", "stowing", "most"] (defScope (topS 27)) := ⟨rfl, rfl, rfl, by decide +kernel, rfl, by decide +kernel, by decide +kernel⟩
theorem ok__law_refused {T : Txt K mg} : FnOk P w K mg base (L2.CX P w) 5 T.a__law_refused T.d__law_refused ["loads", "seats", "stowing", "most"] (spD (K, w) mg [false, false, false, false] cf__law_refused) :=
  fn_ok T.F__law_refused sc__law_refused rfl (by decide) fun cdv A outer s H E G hr =>
    have S := sc__law_refused
    show PSs _ (defBody (topS 27)) (RS _ G (WF E) bd__law_refused) from
    (rs_cons (rs_try rfl rfl S.nd (takes_of rfl rfl rfl rfl) T.sub (fun W pn xe tk hp => (rs_one (rs_expr (re_call (ok_boarding (T := T)) (hr.mono (by decide)) rfl T.g_boarding T.F_boarding.kp T.b_boarding tk (ram_cons (re_var 0) (ram_cons (re_var 1) (ram_cons (re_var 2) (ram_cons (re_var 3) ram_nil)))))))) (.as (i := 4) rfl rfl ⟨rfl, by decide, .inl T.c_ChestError⟩ T.c_ChestError
      (fun a oe cls d pn hz hf n p => rsh_is T.kit hz hf rfl T.n_isinstance (i := 4) rfl (.inl rfl) rfl T.c_BadMost T.c_BadMost)
      .nil))
    (rs_one (rs_ret re_bl)))
theorem sc__law_worst : FnScope ["loads", "stowing", "order", "now", "worst", "number"] ["loads", "stowing", "order"] (defScope (topS 26)) := ⟨rfl, rfl, rfl, by decide +kernel, rfl, by decide +kernel, by decide +kernel⟩
theorem ok__law_worst {T : Txt K mg} : FnOk P w K mg base (L2.CX P w) 1 T.a__law_worst T.d__law_worst ["loads", "stowing", "order"] (spD (K, w) mg [false, false, false] cf__law_worst) :=
  fn_ok T.F__law_worst sc__law_worst rfl (by decide) fun cdv A outer s H E G hr =>
    have S := sc__law_worst
    show PSs _ (defBody (topS 26)) (RS _ G (WF E) bd__law_worst) from
    (rs_cons (rs_tg (re_tup (ra_cons re_int (ra_cons re_int ra_nil))) (rg_tp rfl (rgs_cons (rg_nm (i := 3) S.nd rfl) (rgs_cons (rg_nm (i := 4) S.nd rfl) rgs_nil))))
    (rs_cons (rs_for (passes_of rfl) rfl (by exact (ri_e (re_var 2))) (rg_nm (i := 5) S.nd rfl) (rs_cons (rs_set (i := 3) S.nd rfl (.inl rfl) (re_op op_addD addD_quiet (re_var 3) (re_op op_mulD mulD_quiet (re_ix ix_seqB ixD_quiet (re_b (re_var 0)) (re_b (re_var 5)) (fun _ _ => rfl)) (re_ix ix_seqB ixD_quiet (re_b (re_var 1)) (re_b (re_var 5)) (fun _ _ => rfl)))))
    (rs_one (rs_set (i := 4) S.nd rfl (.inl rfl) (re_callB (call_maxB rfl (u65 hr)) maxD_quiet rfl T.n_max boot_max (rab_cons (re_b (re_var 4)) (rab_cons (re_b (re_var 3)) (rab_cons (re_b (re_op op_subD subD_quiet re_int (re_var 3))) rab_nil))))))))
    (rs_one (rs_ret (re_var 4)))))
theorem sc_steadiest : FnScope ["loads", "seats", "stowing", "tilts", "group", "one", "most", "order"] ["loads", "seats", "stowing"] (defScope (topS 22)) := ⟨rfl, rfl, rfl, by decide +kernel, rfl, by decide +kernel, by decide +kernel⟩
theorem ok_steadiest {T : Txt K mg} : FnOk P w K mg base (L2.CX P w) 4 T.a_steadiest T.d_steadiest ["loads", "seats", "stowing"] (spD (K, w) mg [false, false, false] cf_steadiest) :=
  fn_ok T.F_steadiest sc_steadiest rfl (by decide) fun cdv A outer s H E G hr =>
    have S := sc_steadiest
    show PSs _ (defBody (topS 22)) (RS _ G (WF E) bd_steadiest) from
    (rs_cons (rs_expr (re_call (ok__check_stowing (T := T)) (hr.mono (by decide)) rfl T.g__check_stowing T.F__check_stowing.kp T.b__check_stowing (takes_of rfl rfl rfl rfl) (ram_cons (re_var 0) (ram_cons (re_var 1) (ram_cons (re_var 2) ram_nil)))))
    (rs_cons (rs_setDc (i := 3) rfl S.nd rfl rfl rfl (by exact (riw_b (re_b (re_call (ok__subsets (T := T)) (hr.mono (by decide)) rfl T.g__subsets T.F__subsets.kp T.b__subsets (takes_of rfl rfl rfl rfl) (ram_cons (re_callB call_lenB lenD_quiet rfl T.n_len boot_len (rab_cons (re_b (re_var 0)) rab_nil)) ram_nil))))) (blkOk_by (own := [("group", 4)]) (by kernel_rfl)) (fun _ _ _ _ _ => (rg_nm (i := 4) S.nd rfl)) (fun _ _ _ _ _ => rts_nil) (fun _ _ _ _ _ => (re_callB call_absB absD_quiet rfl T.n_abs boot_abs (rab_cons (re_b (re_callB (call_sumB rfl) sumD_quiet rfl T.n_sum boot_sum (rab_cons (re_b (rl_e (rl_lc rfl S.nd (by exact (riw_b (re_b (re_var 4)))) (blkOk_by (own := [("one", 5)]) (by kernel_rfl)) (fun _ _ _ _ _ => (rg_nm (i := 5) S.nd rfl)) (fun _ _ _ _ _ => rts_nil) (fun _ _ _ _ _ => (re_op op_mulD mulD_quiet (re_ix ix_seqB ixD_quiet (re_b (re_var 0)) (re_b (re_var 5)) (fun _ _ => rfl)) (re_ix ix_seqB ixD_quiet (re_b (re_var 2)) (re_b (re_var 5)) (fun _ _ => rfl))))))) rab_nil))) rab_nil))) (fun _ _ _ _ _ => re_bl))
    (rs_cons (rs_for (passes_of rfl) rfl (by exact (ri_e (rl_e (rl_callB (call_sortedE rfl (u66 hr)) sortedE_quiet rfl T.n_sorted boot_sorted (rab_cons (re_b (re_var 3)) rab_nil))))) (rg_nm (i := 6) S.nd rfl) (rs_cons (rs_set (i := 7) S.nd rfl (.inl rfl) (re_call (ok__boarding (T := T)) (hr.mono (by decide)) rfl T.g__boarding T.F__boarding.kp T.b__boarding (takes_of rfl rfl rfl rfl) (ram_cons (re_var 0) (ram_cons (re_var 2) (ram_cons (re_var 6) ram_nil)))))
    (rs_one (rs_if (rt_cmp op_isNotB isNotD_quiet (re_b (re_var 7)) (re_b re_non) (by first | exact nobehind _ (by decide) (by decide) | rfl)) (rs_one (rs_ret (re_tup (ra_cons (re_var 6) (ra_cons (re_var 7) ra_nil))))) rs_nil))))
    (rs_one (rs_ret (re_tup (ra_cons re_int (ra_cons (re_tup ra_nil) ra_nil))))))))
theorem sc__tilt : FnScope ["loads", "stowing", "load", "seat"] ["loads", "stowing"] (defScope (topS 17)) := ⟨rfl, rfl, rfl, by decide +kernel, rfl, by decide +kernel, by decide +kernel⟩
theorem ok__tilt {T : Txt K mg} : FnOk P w K mg base (L2.CX P w) 1 T.a__tilt T.d__tilt ["loads", "stowing"] (spD (K, w) mg [false, false] cf__tilt) :=
  fn_ok T.F__tilt sc__tilt rfl (by decide) fun cdv A outer s H E G hr =>
    have S := sc__tilt
    show PSs _ (defBody (topS 17)) (RS _ G (WF E) bd__tilt) from
    (rs_one (rs_ret (re_callB (call_sumB rfl) sumD_quiet rfl T.n_sum boot_sum (rab_cons (re_b (rl_e (rl_lc rfl S.nd (by exact (ri_w (ri_zip rfl T.n_zip (ra_cons (re_var 0) (ra_cons (re_var 1) ra_nil))))) (blkOk_by (own := [("load", 2), ("seat", 3)]) (by kernel_rfl)) (fun _ _ _ _ _ => (rg_tp rfl (rgs_cons (rg_nm (i := 2) S.nd rfl) (rgs_cons (rg_nm (i := 3) S.nd rfl) rgs_nil)))) (fun _ _ _ _ _ => rts_nil) (fun _ _ _ _ _ => (re_op op_mulD mulD_quiet (re_var 2) (re_var 3)))))) rab_nil))))
theorem sc_tilt_of : FnScope ["loads", "seats", "stowing"] ["loads", "seats", "stowing"] (defScope (topS 18)) := ⟨rfl, rfl, rfl, by decide +kernel, rfl, by decide +kernel, by decide +kernel⟩
theorem ok_tilt_of {T : Txt K mg} : FnOk P w K mg base (L2.CX P w) 4 T.a_tilt_of T.d_tilt_of ["loads", "seats", "stowing"] (spD (K, w) mg [false, false, false] cf_tilt_of) :=
  fn_ok T.F_tilt_of sc_tilt_of rfl (by decide) fun cdv A outer s H E G hr =>
    have S := sc_tilt_of
    show PSs _ (defBody (topS 18)) (RS _ G (WF E) bd_tilt_of) from
    (rs_cons (rs_expr (re_call (ok__check_stowing (T := T)) (hr.mono (by decide)) rfl T.g__check_stowing T.F__check_stowing.kp T.b__check_stowing (takes_of rfl rfl rfl rfl) (ram_cons (re_var 0) (ram_cons (re_var 1) (ram_cons (re_var 2) ram_nil)))))
    (rs_one (rs_ret (re_call (ok__tilt (T := T)) (hr.mono (by decide)) rfl T.g__tilt T.F__tilt.kp T.b__tilt (takes_of rfl rfl rfl rfl) (ram_cons (re_var 0) (ram_cons (re_var 2) ram_nil))))))
theorem sc_law : FnScope ["script", "draws", "turn", "seats", "k", "count", "loads", "stowing", "pair", "orders", "worsts", "order", "best", "whole", "most", "good", "worst", "told", "now", "number", "wrong"] ["script"] (defScope (topS 28)) := ⟨rfl, rfl, rfl, by decide +kernel, rfl, by decide +kernel, by decide +kernel⟩
theorem ok_law {T : Txt K mg} : FnOk P w K mg base (L2.CX P w) 6 T.a_law T.d_law ["script"] (spD (K, w) mg [true] cf_law) :=
  fn_ok T.F_law sc_law rfl (by decide) fun cdv A outer s H E G hr =>
    have S := sc_law
    show PSs _ (defBody (topS 28)) (RS _ G (WF E) bd_law) from
    (rs_cons (rs_set (i := 1) S.nd rfl (.inr rfl) (re_call (ok__law_draws (T := T)) (hr.mono (by decide)) rfl T.g__law_draws T.F__law_draws.kp T.b__law_draws (takes_of rfl rfl rfl rfl) (ram_consB (rb_var 0) (ram_cons re_int ram_nil))))
    (rs_cons (rs_for (passes_of rfl) rfl (by exact (ri_range1 rfl T.n_range (rab_cons (re_b re_int) rab_nil))) (rg_nm (i := 2) S.nd rfl) (rs_cons (rs_set (i := 3) S.nd rfl (.inr rfl) (re_callTy call_tupleB tupleD_quiet rfl T.n_tuple boot_tuple (rab_cons (re_b (rl_e (rl_sortSet rfl rfl T.n_sorted rfl T.n_set (re_b (rl_e (rl_lc rfl S.nd (by exact (ri_w (ri_range1 rfl T.n_range (rab_cons (re_b re_int) rab_nil)))) (blkOk_by (own := [("k", 4)]) (by kernel_rfl)) (fun _ _ _ _ _ => (rg_nm (i := 4) S.nd rfl)) (fun _ _ _ _ _ => rts_nil) (fun _ _ _ _ _ => (re_op op_subD subD_quiet (re_op op_modD modD_quiet (re_callTy call_intB intD_quiet rfl T.n_int boot_int (rab_cons (re_b (re_ix ix_seqB ixD_quiet (re_b (re_var 1)) (re_b (re_op op_modD modD_quiet (re_op op_addD addD_quiet (re_op op_mulD mulD_quiet re_int (re_var 2)) (re_var 4)) re_int)) (fun _ _ => rfl))) rab_nil)) re_int) re_int)))))))) rab_nil)))
    (rs_cons (rs_set (i := 5) S.nd rfl (.inl rfl) (re_callB (call_minB rfl (u65 hr)) minD_quiet rfl T.n_min boot_min (rab_cons (re_b (re_callB call_lenB lenD_quiet rfl T.n_len boot_len (rab_cons (re_b (re_var 3)) rab_nil))) (rab_cons (re_b (re_op op_addD addD_quiet re_int (re_op op_modD modD_quiet (re_callTy call_intB intD_quiet rfl T.n_int boot_int (rab_cons (re_b (re_ix ix_seqB ixD_quiet (re_b (re_var 1)) (re_b (re_op op_addD addD_quiet re_int (re_var 2))) (fun _ _ => rfl))) rab_nil)) re_int))) rab_nil))))
    (rs_cons (rs_set (i := 6) S.nd rfl (.inr rfl) (re_callTy call_tupleB tupleD_quiet rfl T.n_tuple boot_tuple (rab_cons (re_b (rl_e (rl_lc rfl S.nd (by exact (ri_w (ri_range1 rfl T.n_range (rab_cons (re_b (re_var 5)) rab_nil)))) (blkOk_by (own := [("k", 4)]) (by kernel_rfl)) (fun _ _ _ _ _ => (rg_nm (i := 4) S.nd rfl)) (fun _ _ _ _ _ => rts_nil) (fun _ _ _ _ _ => (re_op op_addD addD_quiet re_int (re_op op_modD modD_quiet (re_callTy call_intB intD_quiet rfl T.n_int boot_int (rab_cons (re_b (re_ix ix_seqB ixD_quiet (re_b (re_var 1)) (re_b (re_op op_addD addD_quiet re_int (re_var 4))) (fun _ _ => rfl))) rab_nil)) re_int)))))) rab_nil)))
    (rs_cons (rs_set (i := 7) S.nd rfl (.inr rfl) (re_callTy call_tupleB tupleD_quiet rfl T.n_tuple boot_tuple (rab_cons (re_b (re_sl sl_seqB slD_quiet (re_b (rl_e (rl_lc rfl S.nd (by exact (riw_b (re_b (rl_e (rl_callB (call_sortedL (u66 hr)) sortedL_quiet rfl T.n_sorted boot_sorted (rab_cons (re_b (rl_e (rl_lc rfl S.nd (by exact (ri_w (ri_range1 rfl T.n_range (rab_cons (re_b (re_callB call_lenB lenD_quiet rfl T.n_len boot_len (rab_cons (re_b (re_var 3)) rab_nil))) rab_nil)))) (blkOk_by (own := [("k", 4)]) (by kernel_rfl)) (fun _ _ _ _ _ => (rg_nm (i := 4) S.nd rfl)) (fun _ _ _ _ _ => rts_nil) (fun _ _ _ _ _ => (re_tup (ra_cons (re_callTy call_intB intD_quiet rfl T.n_int boot_int (rab_cons (re_b (re_ix ix_seqB ixD_quiet (re_b (re_var 1)) (re_b (re_op op_modD modD_quiet (re_op op_addD addD_quiet (re_op op_addD addD_quiet re_int (re_op op_mulD mulD_quiet re_int (re_var 4))) (re_var 2)) re_int)) (fun _ _ => rfl))) rab_nil)) (ra_cons (re_ix ix_seqB ixD_quiet (re_b (re_var 3)) (re_b (re_var 4)) (fun _ _ => rfl)) ra_nil))))))) rab_nil)))))) (blkOk_by (own := [("pair", 8)]) (by kernel_rfl)) (fun _ _ _ _ _ => (rg_nm (i := 8) S.nd rfl)) (fun _ _ _ _ _ => rts_nil) (fun _ _ _ _ _ => (re_ix ix_seqB ixD_quiet (re_b (re_var 8)) (re_b re_int) (fun _ _ => rfl)))))) ro_none (ro_some (re_var 5)))) rab_nil)))
    (rs_cons (rs_set (i := 9) S.nd rfl (.inl rfl) (re_call (ok__law_orders (T := T)) (hr.mono (by decide)) rfl T.g__law_orders T.F__law_orders.kp T.b__law_orders (takes_of rfl rfl rfl rfl) (ram_cons (re_var 5) ram_nil)))
    (rs_cons (rs_setLc (i := 10) rfl S.nd rfl rfl rfl (by exact (riw_b (re_b (re_var 9)))) (blkOk_by (own := [("order", 11)]) (by kernel_rfl)) (fun _ _ _ _ _ => (rg_nm (i := 11) S.nd rfl)) (fun _ _ _ _ _ => rts_nil) (fun _ _ _ _ _ => (re_tup (ra_cons (re_call (ok__law_worst (T := T)) (hr.mono (by decide)) rfl T.g__law_worst T.F__law_worst.kp T.b__law_worst takes0 (ram_cons (re_var 6) (ram_cons (re_var 7) (ram_cons (re_var 11) ram_nil)))) (ra_cons (re_var 11) ra_nil)))))
    (rs_cons (rs_set (i := 12) S.nd rfl (.inl rfl) (re_callB (call_minB rfl (u65 hr)) minD_quiet rfl T.n_min boot_min (rab_cons (re_b (re_var 10)) rab_nil)))
    (rs_cons (rs_if (rt_cmp (op_neB (u64 hr)) neD_quiet (re_b (re_call (ok_steadiest (T := T)) (hr.mono (by decide)) rfl T.g_steadiest T.F_steadiest.kp T.b_steadiest (takes_of rfl rfl rfl rfl) (ram_cons (re_var 6) (ram_cons (re_var 3) (ram_cons (re_var 7) ram_nil))))) (re_b (re_var 12)) (by first | exact nobehind _ (by decide) (by decide) | rfl)) (rs_one (rs_ret re_bl)) rs_nil)
    (rs_cons (rs_set (i := 13) S.nd rfl (.inl rfl) (re_call (ok_tilt_of (T := T)) (hr.mono (by decide)) rfl T.g_tilt_of T.F_tilt_of.kp T.b_tilt_of (takes_of rfl rfl rfl rfl) (ram_cons (re_var 6) (ram_cons (re_var 3) (ram_cons (re_var 7) ram_nil)))))
    (rs_cons (rs_for (passes_of rfl) rfl (by exact (ri_e (rl_e (rl_sortSet rfl rfl T.n_sorted rfl T.n_set (re_b (rl_e (rl_lst (ra_cons re_int (ra_cons (re_ix ix_seqB ixD_quiet (re_b (re_var 12)) (re_b re_int) (fun _ _ => rfl)) (ra_cons (re_callB (call_maxB rfl (u65 hr)) maxD_quiet rfl T.n_max boot_max (rab_cons (re_b re_int) (rab_cons (re_b (re_op op_subD subD_quiet (re_ix ix_seqB ixD_quiet (re_b (re_var 12)) (re_b re_int) (fun _ _ => rfl)) re_int)) rab_nil))) (ra_cons (re_op op_addD addD_quiet (re_ix ix_seqB ixD_quiet (re_b (re_var 12)) (re_b re_int) (fun _ _ => rfl)) re_int) (ra_cons (re_callB (call_maxB rfl (u65 hr)) maxD_quiet rfl T.n_max boot_max (rab_cons (re_b (re_var 13)) (rab_cons (re_b (re_op op_subD subD_quiet re_int (re_var 13))) rab_nil))) (ra_cons re_int (ra_cons (re_op op_modD modD_quiet (re_callTy call_intB intD_quiet rfl T.n_int boot_int (rab_cons (re_b (re_ix ix_seqB ixD_quiet (re_b (re_var 1)) (re_b (re_op op_addD addD_quiet re_int (re_var 2))) (fun _ _ => rfl))) rab_nil)) re_int) ra_nil)))))))))))))) (rg_nm (i := 14) S.nd rfl) (rs_cons (rs_setLc (i := 15) rfl S.nd rfl rfl rfl (by exact (riw_b (re_b (re_var 10)))) (blkOk_by (own := [("worst", 16), ("order", 11)]) (by kernel_rfl)) (fun _ _ _ _ _ => (rg_tp rfl (rgs_cons (rg_nm (i := 16) S.nd rfl) (rgs_cons (rg_nm (i := 11) S.nd rfl) rgs_nil)))) (fun _ _ _ _ _ => (rts_one (rt_cmp op_leB leD_quiet (re_b (re_var 16)) (re_b (re_var 14)) (by first | exact nobehind _ (by decide) (by decide) | rfl)))) (fun _ _ _ _ _ => (re_var 11)))
    (rs_cons (rs_set (i := 17) S.nd rfl (.inl rfl) (re_call (ok_boarding (T := T)) (hr.mono (by decide)) rfl T.g_boarding T.F_boarding.kp T.b_boarding (takes_of rfl rfl rfl rfl) (ram_cons (re_var 6) (ram_cons (re_var 3) (ram_cons (re_var 7) (ram_cons (re_var 14) ram_nil))))))
    (rs_cons (rs_if (rt_cmp (op_neB (u64 hr)) neD_quiet (re_b (re_var 17)) (re_b (re_if (rt_cmp op_gtB gtD_quiet (re_b (re_callB call_lenB lenD_quiet rfl T.n_len boot_len (rab_cons (re_b (re_var 15)) rab_nil))) (re_b re_int) (by first | exact nobehind _ (by decide) (by decide) | rfl)) (re_ix ix_seqB ixD_quiet (re_b (re_var 15)) (re_b re_int) (fun _ _ => rfl)) re_non)) (by first | exact nobehind _ (by decide) (by decide) | rfl)) (rs_one (rs_ret re_bl)) rs_nil)
    (rs_one (rs_if (rt_cmp op_isNotB isNotD_quiet (re_b (re_var 17)) (re_b re_non) (by first | exact nobehind _ (by decide) (by decide) | rfl)) (rs_cons (rs_set (i := 18) S.nd rfl (.inl rfl) (re_var 13))
    (rs_cons (rs_for (passes_of rfl) rfl (by exact (ri_e (re_st st_seqB stD_quiet (re_b (re_var 17)) (ro_some (re_un un_negD negD_quiet re_int))))) (rg_nm (i := 19) S.nd rfl) (rs_cons (rs_if (rt_cmp op_gtB gtD_quiet (re_b (re_callB (call_maxB rfl (u65 hr)) maxD_quiet rfl T.n_max boot_max (rab_cons (re_b (re_var 18)) (rab_cons (re_b (re_op op_subD subD_quiet re_int (re_var 18))) rab_nil)))) (re_b (re_var 14)) (by first | exact nobehind _ (by decide) (by decide) | rfl)) (rs_one (rs_ret re_bl)) rs_nil)
    (rs_one (rs_set (i := 18) S.nd rfl (.inl rfl) (re_op op_subD subD_quiet (re_var 18) (re_op op_mulD mulD_quiet (re_ix ix_seqB ixD_quiet (re_b (re_var 6)) (re_b (re_var 19)) (fun _ _ => rfl)) (re_ix ix_seqB ixD_quiet (re_b (re_var 7)) (re_b (re_var 19)) (fun _ _ => rfl))))))))
    (rs_one (rs_if (rt_cmp (op_neB (u64 hr)) neD_quiet (re_b (re_var 18)) (re_b re_int) (by first | exact nobehind _ (by decide) (by decide) | rfl)) (rs_one (rs_ret re_bl)) rs_nil)))) rs_nil))))))
    (rs_one (rs_if (rt_not (rt_val (re_callB (call_allB rfl) allD_quiet rfl T.n_all boot_all (rab_cons (re_b (rl_e (rl_lc rfl S.nd (by exact (riw_b (re_b (rl_e (rl_lst (ra_cons (re_un un_negD negD_quiet re_int) (ra_cons re_int (ra_cons re_bl (ra_cons re_non (ra_cons re_str ra_nil)))))))))) (blkOk_by (own := [("wrong", 20)]) (by kernel_rfl)) (fun _ _ _ _ _ => (rg_nm (i := 20) S.nd rfl)) (fun _ _ _ _ _ => rts_nil) (fun _ _ _ _ _ => (re_call (ok__law_refused (T := T)) (hr.mono (by decide)) rfl T.g__law_refused T.F__law_refused.kp T.b__law_refused takes0 (ram_cons (re_var 6) (ram_cons (re_var 3) (ram_cons (re_var 7) (ram_cons (re_var 20) ram_nil))))))))) rab_nil)))) (rs_one (rs_ret re_bl)) rs_nil)))))))))))))
    (rs_cons (rs_if (rt_w (rw_or (rt_cmp (op_neB (u64 hr)) neD_quiet (re_b (re_call (ok_steadiest (T := T)) (hr.mono (by decide)) rfl T.g_steadiest T.F_steadiest.kp T.b_steadiest (takes_of rfl rfl rfl rfl) (ram_cons (re_tup (ra_cons re_int (ra_cons re_int (ra_cons re_int ra_nil)))) (ram_cons (re_tup (ra_cons (re_un un_negD negD_quiet re_int) (ra_cons re_int (ra_cons re_int ra_nil)))) (ram_cons (re_tup (ra_cons (re_un un_negD negD_quiet re_int) (ra_cons re_int (ra_cons re_int ra_nil)))) ram_nil))))) (re_b (re_tup (ra_cons re_int (ra_cons (re_tup (ra_cons re_int (ra_cons re_int (ra_cons re_int ra_nil)))) ra_nil)))) (by first | exact nobehind _ (by decide) (by decide) | rfl)) (rw_or1 (rt_cmp op_isNotB isNotD_quiet (re_b (re_call (ok_boarding (T := T)) (hr.mono (by decide)) rfl T.g_boarding T.F_boarding.kp T.b_boarding (takes_of rfl rfl rfl rfl) (ram_cons (re_tup (ra_cons re_int (ra_cons re_int (ra_cons re_int ra_nil)))) (ram_cons (re_tup (ra_cons (re_un un_negD negD_quiet re_int) (ra_cons re_int (ra_cons re_int ra_nil)))) (ram_cons (re_tup (ra_cons (re_un un_negD negD_quiet re_int) (ra_cons re_int (ra_cons re_int ra_nil)))) (ram_cons re_int ram_nil)))))) (re_b re_non) (by first | exact nobehind _ (by decide) (by decide) | rfl))))) (rs_one (rs_ret re_bl)) rs_nil)
    (rs_one (rs_ret (re_and (re_cmp (op_eqB (u64 hr)) eqD_quiet (re_b (re_call (ok_boarding (T := T)) (hr.mono (by decide)) rfl T.g_boarding T.F_boarding.kp T.b_boarding (takes_of rfl rfl rfl rfl) (ram_cons (re_tup (ra_cons re_int (ra_cons re_int ra_nil))) (ram_cons (re_tup (ra_cons (re_un un_negD negD_quiet re_int) (ra_cons re_int (ra_cons re_int ra_nil)))) (ram_cons (re_tup (ra_cons re_int (ra_cons re_int ra_nil))) (ram_cons re_int ram_nil)))))) (re_b (re_tup (ra_cons re_int (ra_cons re_int ra_nil)))) (by first | exact nobehind _ (by decide) (by decide) | rfl)) (re_and (re_cmp op_isB isD_quiet (re_b (re_call (ok_boarding (T := T)) (hr.mono (by decide)) rfl T.g_boarding T.F_boarding.kp T.b_boarding (takes_of rfl rfl rfl rfl) (ram_cons (re_tup (ra_cons re_int (ra_cons re_int ra_nil))) (ram_cons (re_tup (ra_cons (re_un un_negD negD_quiet re_int) (ra_cons re_int (ra_cons re_int ra_nil)))) (ram_cons (re_tup (ra_cons re_int (ra_cons re_int ra_nil))) (ram_cons re_int ram_nil)))))) (re_b re_non) (by first | exact nobehind _ (by decide) (by decide) | rfl)) (re_one (re_cmp (op_eqB (u64 hr)) eqD_quiet (re_b (re_call (ok_steadiest (T := T)) (hr.mono (by decide)) rfl T.g_steadiest T.F_steadiest.kp T.b_steadiest (takes_of rfl rfl rfl rfl) (ram_cons (re_tup (ra_cons re_int ra_nil)) (ram_cons (re_tup (ra_cons re_int ra_nil)) (ram_cons (re_tup (ra_cons re_int ra_nil)) ram_nil))))) (re_b (re_tup (ra_cons re_int (ra_cons (re_tup (ra_cons re_int ra_nil)) ra_nil)))) (by first | exact nobehind _ (by decide) (by decide) | rfl))))))))))
end
end Nk53

set_option Elab.async false
set_option linter.all false
set_option maxRecDepth 100000
set_option maxHeartbeats 4000000
namespace Ty
open PySem PySem.Spec PyProof.Rows L2 Den
/-! ### typed readings of denotations: r says what o is, where r is not stuck -/
abbrev eInt : Int → PyData := .int
abbrev eBool : Bool → PyData := .bool
abbrev eNon : Unit → PyData := fun _ => .none
abbrev eAny : PyData → PyData := fun d => d
abbrev eStr : List Char → PyData := fun l => .str ⟨(l.map Char.toNat).toArray⟩
section
variable {α β γ α1 α2 α3 α4 α5 α6 : Type}
abbrev eLst (e : α → PyData) : List α → PyData := fun xs => .list (xs.map e)
abbrev eTup (e : α → PyData) : List α → PyData := fun xs => .tuple (xs.map e)
def eOpt (e : α → PyData) : Option α → PyData
  | none => .none
  | some x => e x
abbrev eP0 : Unit → PyData := fun _ => .tuple []
abbrev eP1 (e1 : α1 → PyData) : α1 → PyData := fun x => .tuple [e1 x]
abbrev eP2 (e1 : α1 → PyData) (e2 : α2 → PyData) : α1 × α2 → PyData := fun x => .tuple [e1 x.1, e2 x.2]
abbrev eP3 (e1 : α1 → PyData) (e2 : α2 → PyData) (e3 : α3 → PyData) : α1 × α2 × α3 → PyData := fun x => .tuple [e1 x.1, e2 x.2.1, e3 x.2.2]
abbrev eP4 (e1 : α1 → PyData) (e2 : α2 → PyData) (e3 : α3 → PyData) (e4 : α4 → PyData) : α1 × α2 × α3 × α4 → PyData := fun x => .tuple [e1 x.1, e2 x.2.1, e3 x.2.2.1, e4 x.2.2.2]
abbrev eP5 (e1 : α1 → PyData) (e2 : α2 → PyData) (e3 : α3 → PyData) (e4 : α4 → PyData) (e5 : α5 → PyData) : α1 × α2 × α3 × α4 × α5 → PyData := fun x => .tuple [e1 x.1, e2 x.2.1, e3 x.2.2.1, e4 x.2.2.2.1, e5 x.2.2.2.2]
abbrev eP6 (e1 : α1 → PyData) (e2 : α2 → PyData) (e3 : α3 → PyData) (e4 : α4 → PyData) (e5 : α5 → PyData) (e6 : α6 → PyData) : α1 × α2 × α3 × α4 × α5 × α6 → PyData := fun x => .tuple [e1 x.1, e2 x.2.1, e3 x.2.2.1, e4 x.2.2.2.1, e5 x.2.2.2.2.1, e6 x.2.2.2.2.2]
end
section
variable {α β γ δ δ' : Type} {e : α → δ} {e' : β → δ'}
def Rl (e : α → δ) (o : Rs δ) : Rs α → Prop
  | .ok x => o = .ok (e x)
  | .error .stuck => True
  | .error (.exc n p) => o = .error (.exc n p)
theorem pp {o : Rs δ} {x : α} (h : o = .ok (e x)) : Rl e o (.ok x) := h
theorem Rl.bind {o : Rs δ} {k : δ → Rs δ'} {m : Rs α} {r : α → Rs β} (h : Rl e o m) (f : ∀ x, Rl e' (k (e x)) (r x)) : Rl e' (o >>= k) (m >>= r) := by
  cases m with
  | ok x =>
    have h : o = .ok (e x) := h
    rw [h]; exact f x
  | error er =>
    cases er with
    | stuck => trivial
    | exc n p =>
      have h : o = .error (.exc n p) := h
      rw [h]; rfl
theorem Rl.bindP {o : Rs δ} {k : δ → Rs δ'} {v : δ} {r : Rs β} (h : o = .ok v) (f : Rl e' (k v) r) : Rl e' (o >>= k) r := by rw [h]; exact f
theorem Rl.stuck {o : Rs δ} : Rl e o (.error .stuck) := trivial
theorem Rl.ite {o : Rs δ} {o' : Rs δ} {c : Bool} {r r' : Rs α} (h : c = true → Rl e o r) (h' : c = false → Rl e o' r') : Rl e (if c then o else o') (if c then r else r') := by
  cases c
  · exact h' rfl
  · exact h rfl
end
/-- a list that is not too long -/
def lenG {α : Type} (xs : List α) : Rs (List α) := if xs.length ≤ 1000000 then .ok xs else stuck
theorem okLenN {n : Nat} (h : n ≤ 1000000) : okLen n = true := decide_eq_true (by rw [sizeLine_eq]; omega)
theorem lenG_ok {α : Type} {xs : List α} (h : xs.length ≤ 1000000) : lenG xs = .ok xs := if_pos h
/-! ### expressions -/
section
variable {α β γ : Type} {ρ : EnvD} {a b c : DE} {as : DL} {x y z v : PyData} {e : α → PyData}
theorem o1 {f : PyData → Rs PyData} (ha : a ρ = .ok x) (h : f x = .ok z) : dOp1 f a ρ = .ok z := by
  show (a ρ >>= f) = _
  rw [ha]; exact h
theorem o1R {f : PyData → Rs PyData} {r : Rs α} (ha : a ρ = .ok x) (h : Rl e (f x) r) : Rl e (dOp1 f a ρ) r := Rl.bindP ha h
theorem o1A {f : PyData → Rs PyData} {ea : β → PyData} {m : Rs β} {r : β → Rs α} (ha : Rl ea (a ρ) m) (h : ∀ x, Rl e (f (ea x)) (r x)) : Rl e (dOp1 f a ρ) (m >>= r) := Rl.bind ha h
theorem o2 {f : PyData → PyData → Rs PyData} (ha : a ρ = .ok x) (hb : b ρ = .ok y) (h : f x y = .ok z) : dOp2 f a b ρ = .ok z := by
  show (a ρ >>= fun x => b ρ >>= fun y => f x y) = _
  rw [ha]
  show (b ρ >>= fun y => f x y) = _
  rw [hb]; exact h
theorem o2R {f : PyData → PyData → Rs PyData} {r : Rs α} (ha : a ρ = .ok x) (hb : b ρ = .ok y) (h : Rl e (f x y) r) : Rl e (dOp2 f a b ρ) r := Rl.bindP ha (Rl.bindP hb h)
theorem o2A {f : PyData → PyData → Rs PyData} {ea : β → PyData} {m : Rs β} {r : β → Rs α} (ha : Rl ea (a ρ) m) (h : ∀ x, Rl e (dOp2 f (dLit (ea x)) b ρ) (r x)) : Rl e (dOp2 f a b ρ) (m >>= r) := Rl.bind ha h
theorem o2B {f : PyData → PyData → Rs PyData} {eb : β → PyData} {m : Rs β} {r : β → Rs α} (ha : a ρ = .ok x) (hb : Rl eb (b ρ) m) (h : ∀ y, Rl e (f x (eb y)) (r y)) : Rl e (dOp2 f a b ρ) (m >>= r) := Rl.bindP ha (Rl.bind hb h)
/-! rows of arguments -/
theorem cal {f : List PyData → Rs PyData} {r : Rs α} (h : Rl e (as ρ >>= f) r) : Rl e (dCall f as ρ) r := h
theorem calP {f : List PyData → Rs PyData} {v : PyData} (h : (as ρ >>= f) = .ok v) : dCall f as ρ = .ok v := h
theorem calL {f : List PyData → Rs (List PyData)} {e : α → List PyData} {r : Rs α} (h : Rl e (as ρ >>= f) r) : Rl e (dCallL f as ρ) r := h
theorem calLP {f : List PyData → Rs (List PyData)} {v : List PyData} (h : (as ρ >>= f) = .ok v) : dCallL f as ρ = .ok v := h
theorem tupR {e : α → PyData} {r : Rs α} (h : Rl e (as ρ >>= fun xs => if okLen xs.length then .ok (.tuple xs) else stuck) r) : Rl e (dTup as ρ) r := h
theorem tupP {v : PyData} (h : (as ρ >>= fun xs => if okLen xs.length then .ok (.tuple xs) else stuck) = .ok v) : dTup as ρ = .ok v := h
theorem lstR {e : α → List PyData} {r : Rs α} (h : Rl e (as ρ >>= fun xs => if okLen xs.length then .ok xs else stuck) r) : Rl e (dList as ρ) r := h
theorem lstP {v : List PyData} (h : (as ρ >>= fun xs => if okLen xs.length then .ok xs else stuck) = .ok v) : dList as ρ = .ok v := h
theorem okE {δ : Type} {n : Nat} {v : δ} (h : n ≤ 1000000 := by exact Nat.le_of_ble_eq_true rfl) : (if okLen n then (.ok v : Rs δ) else stuck) = .ok v := if_pos (okLenN h)
theorem cnP {δ : Type} {k : List PyData → Rs δ} {v : δ} (ha : a ρ = .ok x) (h : (as ρ >>= fun xs => k (x :: xs)) = .ok v) : (dCons a as ρ >>= k) = .ok v := by
  show ((a ρ >>= fun x => as ρ >>= fun xs => .ok (x :: xs)) >>= k) = _
  rw [ha]
  rw [← h]
  show ((as ρ >>= fun xs => .ok (x :: xs)) >>= k) = _
  cases as ρ <;> rfl
theorem cnR {δ : Type} {e : α → δ} {k : List PyData → Rs δ} {r : Rs α} (ha : a ρ = .ok x) (h : Rl e (as ρ >>= fun xs => k (x :: xs)) r) : Rl e (dCons a as ρ >>= k) r := by
  have : (dCons a as ρ >>= k) = (as ρ >>= fun xs => k (x :: xs)) := by
    show ((a ρ >>= fun x => as ρ >>= fun xs => .ok (x :: xs)) >>= k) = _
    rw [ha]
    show ((as ρ >>= fun xs => .ok (x :: xs)) >>= k) = _
    cases as ρ <;> rfl
  rw [this]; exact h
theorem cnA {δ : Type} {e : α → δ} {k : List PyData → Rs δ} {ea : β → PyData} {m : Rs β} {r : β → Rs α} (ha : Rl ea (a ρ) m) (h : ∀ x, Rl e (as ρ >>= fun xs => k (ea x :: xs)) (r x)) : Rl e (dCons a as ρ >>= k) (m >>= r) := by
  have : (dCons a as ρ >>= k) = (a ρ >>= fun x => as ρ >>= fun xs => k (x :: xs)) := by
    show ((a ρ >>= fun x => as ρ >>= fun xs => .ok (x :: xs)) >>= k) = _
    cases a ρ with
    | error er => rfl
    | ok x =>
      show ((as ρ >>= fun xs => .ok (x :: xs)) >>= k) = _
      cases as ρ <;> rfl
  rw [this]; exact Rl.bind ha h
theorem nlP {δ : Type} {k : List PyData → Rs δ} {v : δ} (h : k [] = .ok v) : (dNil ρ >>= k) = .ok v := h
theorem nlR {δ : Type} {e : α → δ} {k : List PyData → Rs δ} {r : Rs α} (h : Rl e (k []) r) : Rl e (dNil ρ >>= k) r := h
theorem dlP {c : DL} {xs : List PyData} (h : c ρ = .ok xs) : dLst c ρ = .ok (.list xs) := by
  show (c ρ).map PyData.list = _
  rw [h]; rfl
theorem dlR {c : DL} {e : α → PyData} {r : Rs (List α)} (h : Rl (List.map e) (c ρ) r) : Rl (eLst e) (dLst c ρ) r := by
  show Rl _ ((c ρ).map PyData.list) r
  cases r with
  | ok x =>
    have h : c ρ = .ok (x.map e) := h
    rw [h]; rfl
  | error er =>
    cases er with
    | stuck => trivial
    | exc n p =>
      have h : c ρ = .error (.exc n p) := h
      rw [h]; rfl
/-! tests -/
def tLit (k : Bool) : DT := fun _ => .ok k
variable {s t : DT} {p q : Bool}
abbrev eT : Bool → Bool := fun k => k
theorem tvP (h : a ρ = .ok (.bool p)) : tVal a ρ = .ok p := by
  show (a ρ >>= boolD) = _
  rw [h]; rfl
theorem tvR {r : Rs Bool} (h : Rl eBool (a ρ) r) : Rl eT (tVal a ρ) r := by
  have := Rl.bind (k := boolD) (e' := eT) (r := fun x => .ok x) h fun x => rfl
  cases r <;> exact this
theorem tnP (h : t ρ = .ok p) : tNotD t ρ = .ok (!p) := by
  show (t ρ >>= fun x => .ok (!x)) = _
  rw [h]; rfl
theorem tnR {r : Rs Bool} (h : Rl eT (t ρ) r) : Rl eT (tNotD t ρ) (r >>= fun x => .ok (!x)) := Rl.bind h fun x => rfl
theorem taP (h : s ρ = .ok p) (h' : t ρ = .ok q) : tAndD s t ρ = .ok (p && q) := by
  show (s ρ >>= fun x => if x then t ρ else .ok false) = _
  rw [h]
  cases p
  · rfl
  · exact h'
theorem taR {r : Rs Bool} (h : s ρ = .ok p) (h' : Rl eT (t ρ) r) : Rl eT (tAndD s t ρ) (if p then r else .ok false) := Rl.bindP h (Rl.ite (fun _ => h') fun _ => rfl)
theorem taA {r : Bool → Rs Bool} {m : Rs Bool} (h : Rl eT (s ρ) m) (h' : ∀ x, Rl eT (tAndD (tLit x) t ρ) (r x)) : Rl eT (tAndD s t ρ) (m >>= r) := Rl.bind h h'
theorem toP (h : s ρ = .ok p) (h' : t ρ = .ok q) : tOrD s t ρ = .ok (p || q) := by
  show (s ρ >>= fun x => if x then .ok true else t ρ) = _
  rw [h]
  cases p
  · exact h'
  · rfl
theorem toR {r : Rs Bool} (h : s ρ = .ok p) (h' : Rl eT (t ρ) r) : Rl eT (tOrD s t ρ) (if p then .ok true else r) := Rl.bindP h (Rl.ite (fun _ => rfl) fun _ => h')
theorem toA {r : Bool → Rs Bool} {m : Rs Bool} (h : Rl eT (s ρ) m) (h' : ∀ x, Rl eT (tOrD (tLit x) t ρ) (r x)) : Rl eT (tOrD s t ρ) (m >>= r) := Rl.bind h h'
/-- what is known of the first part -/
theorem taT {δ : Type} {e : δ → Bool} {r : Rs δ} (h : s ρ = .ok true) (h' : Rl e (t ρ) r) : Rl e (tAndD s t ρ) r := Rl.bindP h h'
theorem taTP (h : s ρ = .ok true) (h' : t ρ = .ok q) : tAndD s t ρ = .ok q := by
  show (s ρ >>= fun x => if x then t ρ else .ok false) = _
  rw [h]; exact h'
theorem taF (h : s ρ = .ok false) : tAndD s t ρ = .ok false := by
  show (s ρ >>= fun x => if x then t ρ else .ok false) = _
  rw [h]; rfl
theorem toF {δ : Type} {e : δ → Bool} {r : Rs δ} (h : s ρ = .ok false) (h' : Rl e (t ρ) r) : Rl e (tOrD s t ρ) r := Rl.bindP h h'
theorem toFP (h : s ρ = .ok false) (h' : t ρ = .ok q) : tOrD s t ρ = .ok q := by
  show (s ρ >>= fun x => if x then .ok true else t ρ) = _
  rw [h]; exact h'
theorem toT (h : s ρ = .ok true) : tOrD s t ρ = .ok true := by
  show (s ρ >>= fun x => if x then .ok true else t ρ) = _
  rw [h]; rfl
/-! truth values -/
theorem vnP (h : a ρ = .ok (.bool p)) : dNotV a ρ = .ok (.bool (!p)) := by
  show (a ρ >>= boolD >>= fun x => .ok (PyData.bool (!x))) = .ok (PyData.bool (!p))
  rw [h]; rfl
theorem vnR {r : Rs Bool} (h : Rl eBool (a ρ) r) : Rl eBool (dNotV a ρ) (r >>= fun x => .ok (!x)) := Rl.bind (tvR h) fun x => rfl
theorem vaP (h : a ρ = .ok (.bool p)) (h' : b ρ = .ok (.bool q)) : dAndV a b ρ = .ok (.bool (p && q)) := by
  show (a ρ >>= boolD >>= fun x => if x then b ρ else .ok (.bool false)) = _
  rw [h]
  cases p
  · rfl
  · exact h'
theorem vaR {r : Rs Bool} (h : a ρ = .ok (.bool p)) (h' : Rl eBool (b ρ) r) : Rl eBool (dAndV a b ρ) (if p then r else .ok false) := Rl.bindP (tvP h) (Rl.ite (fun _ => h') fun _ => rfl)
theorem vaA {r : Bool → Rs Bool} {m : Rs Bool} (h : Rl eBool (a ρ) m) (h' : ∀ x, Rl eBool (dAndV (dLit (.bool x)) b ρ) (r x)) : Rl eBool (dAndV a b ρ) (m >>= r) := Rl.bind (tvR h) h'
theorem voP (h : a ρ = .ok (.bool p)) (h' : b ρ = .ok (.bool q)) : dOrV a b ρ = .ok (.bool (p || q)) := by
  show (a ρ >>= boolD >>= fun x => if x then .ok (.bool true) else b ρ) = _
  rw [h]
  cases p
  · exact h'
  · rfl
theorem voR {r : Rs Bool} (h : a ρ = .ok (.bool p)) (h' : Rl eBool (b ρ) r) : Rl eBool (dOrV a b ρ) (if p then .ok true else r) := Rl.bindP (tvP h) (Rl.ite (fun _ => rfl) fun _ => h')
theorem voA {r : Bool → Rs Bool} {m : Rs Bool} (h : Rl eBool (a ρ) m) (h' : ∀ x, Rl eBool (dOrV (dLit (.bool x)) b ρ) (r x)) : Rl eBool (dOrV a b ρ) (m >>= r) := Rl.bind (tvR h) h'
theorem vaT {r : Rs Bool} (h : a ρ = .ok (.bool true)) (h' : Rl eBool (b ρ) r) : Rl eBool (dAndV a b ρ) r := Rl.bindP (tvP h) h'
theorem vaTP (h : a ρ = .ok (.bool true)) (h' : b ρ = .ok v) : dAndV a b ρ = .ok v := by
  show (a ρ >>= boolD >>= fun x => if x then b ρ else .ok (.bool false)) = _
  rw [h]; exact h'
theorem vaF (h : a ρ = .ok (.bool false)) : dAndV a b ρ = .ok (.bool false) := by
  show (a ρ >>= boolD >>= fun x => if x then b ρ else .ok (.bool false)) = _
  rw [h]; rfl
theorem voF {r : Rs Bool} (h : a ρ = .ok (.bool false)) (h' : Rl eBool (b ρ) r) : Rl eBool (dOrV a b ρ) r := Rl.bindP (tvP h) h'
theorem voFP (h : a ρ = .ok (.bool false)) (h' : b ρ = .ok v) : dOrV a b ρ = .ok v := by
  show (a ρ >>= boolD >>= fun x => if x then .ok (.bool true) else b ρ) = _
  rw [h]; exact h'
theorem voT (h : a ρ = .ok (.bool true)) : dOrV a b ρ = .ok (.bool true) := by
  show (a ρ >>= boolD >>= fun x => if x then .ok (.bool true) else b ρ) = _
  rw [h]; rfl
/-! choices -/
theorem diP {x y : α} (h : t ρ = .ok p) (ha : a ρ = .ok (e x)) (hb : b ρ = .ok (e y)) : dIf t a b ρ = .ok (e (if p then x else y)) := by
  show (t ρ >>= fun x => if x then a ρ else b ρ) = _
  rw [h]
  cases p
  · exact hb
  · exact ha
theorem diR {r r' : Rs α} (h : t ρ = .ok p) (ha : Rl e (a ρ) r) (hb : Rl e (b ρ) r') : Rl e (dIf t a b ρ) (if p then r else r') := Rl.bindP h (Rl.ite (fun _ => ha) fun _ => hb)
theorem diA {m : Rs Bool} {r : Bool → Rs α} (h : Rl eT (t ρ) m) (h' : ∀ x, Rl e (dIf (tLit x) a b ρ) (r x)) : Rl e (dIf t a b ρ) (m >>= r) := Rl.bind h h'
theorem diT {r : Rs α} (h : t ρ = .ok true) (ha : Rl e (a ρ) r) : Rl e (dIf t a b ρ) r := Rl.bindP h ha
theorem diF {r : Rs α} (h : t ρ = .ok false) (hb : Rl e (b ρ) r) : Rl e (dIf t a b ρ) r := Rl.bindP h hb
theorem diTP (h : t ρ = .ok true) (ha : a ρ = .ok v) : dIf t a b ρ = .ok v := by
  show (t ρ >>= fun x => if x then a ρ else b ρ) = _
  rw [h]; exact ha
theorem diFP (h : t ρ = .ok false) (ha : b ρ = .ok v) : dIf t a b ρ = .ok v := by
  show (t ρ >>= fun x => if x then a ρ else b ρ) = _
  rw [h]; exact ha
theorem chP {f g : PyData → PyData → Rs PyData} (ha : a ρ = .ok x) (hb : b ρ = .ok y) (hc : c ρ = .ok z) (hf : f x y = .ok (.bool p)) (hg : g y z = .ok (.bool q)) : dChain f g a b c ρ = .ok (.bool (p && q)) := by
  show (a ρ >>= fun x => b ρ >>= fun y => f x y >>= boolD >>= fun t => if t then c ρ >>= fun z => g y z else .ok (.bool false)) = _
  rw [ha]
  show (b ρ >>= fun y => f x y >>= boolD >>= fun t => if t then c ρ >>= fun z => g y z else .ok (.bool false)) = _
  rw [hb]
  show (f x y >>= boolD >>= fun t => if t then c ρ >>= fun z => g y z else .ok (.bool false)) = _
  rw [hf]
  cases p
  · rfl
  · show (c ρ >>= fun z => g y z) = _
    rw [hc]; exact hg
theorem chR {f g : PyData → PyData → Rs PyData} {r : Rs Bool} (ha : a ρ = .ok x) (hb : b ρ = .ok y) (hf : f x y = .ok (.bool p)) (hc : Rl eBool (dOp2 g (dLit y) c ρ) r) : Rl eBool (dChain f g a b c ρ) (if p then r else .ok false) :=
  Rl.bindP ha (Rl.bindP hb (Rl.bindP (v := p) (by rw [hf]; rfl) (Rl.ite (fun _ => hc) fun _ => rfl)))
theorem chA {f g : PyData → PyData → Rs PyData} {ea : β → PyData} {m : Rs β} {r : β → Rs Bool} (ha : Rl ea (a ρ) m) (h : ∀ x, Rl eBool (dChain f g (dLit (ea x)) b c ρ) (r x)) : Rl eBool (dChain f g a b c ρ) (m >>= r) := Rl.bind ha h
theorem chB {f g : PyData → PyData → Rs PyData} {eb : β → PyData} {m : Rs β} {r : β → Rs Bool} (ha : a ρ = .ok x) (hb : Rl eb (b ρ) m) (h : ∀ y, Rl eBool (dChain f g (dLit x) (dLit (eb y)) c ρ) (r y)) : Rl eBool (dChain f g a b c ρ) (m >>= r) := Rl.bindP ha (Rl.bind hb h)
/-! slices -/
def oLit (o : Option Int) : DO := fun _ => .ok o
theorem osP {i : Int} (h : a ρ = .ok (.int i)) : oSome a ρ = .ok (some i) := by
  show (a ρ >>= fun d => match d with | .int i => .ok (some i) | _ => stuck) = _
  rw [h]; rfl
theorem osR {m : Rs Int} (h : Rl eInt (a ρ) m) : Rl some (oSome a ρ) m := by
  show Rl some (a ρ >>= fun d => match d with | .int i => .ok (some i) | _ => stuck) m
  cases m with
  | ok x =>
    have h : a ρ = .ok (.int x) := h
    rw [h]; rfl
  | error er =>
    cases er with
    | stuck => trivial
    | exc n p =>
      have h : a ρ = .error (.exc n p) := h
      rw [h]; rfl
variable {lo hi : DO} {l u : Option Int}
theorem slP {f : PyData → Option Int → Option Int → Rs PyData} (ha : a ρ = .ok x) (hl : lo ρ = .ok l) (hu : hi ρ = .ok u) (h : f x l u = .ok z) : dSl f a lo hi ρ = .ok z := by
  show (a ρ >>= fun x => lo ρ >>= fun l => hi ρ >>= fun u => f x l u) = _
  rw [ha]
  show (lo ρ >>= fun l => hi ρ >>= fun u => f x l u) = _
  rw [hl]
  show (hi ρ >>= fun u => f x l u) = _
  rw [hu]; exact h
theorem slR {f : PyData → Option Int → Option Int → Rs PyData} {r : Rs α} (ha : a ρ = .ok x) (hl : lo ρ = .ok l) (hu : hi ρ = .ok u) (h : Rl e (f x l u) r) : Rl e (dSl f a lo hi ρ) r := Rl.bindP ha (Rl.bindP hl (Rl.bindP hu h))
theorem slA {f : PyData → Option Int → Option Int → Rs PyData} {ea : β → PyData} {m : Rs β} {r : β → Rs α} (ha : Rl ea (a ρ) m) (h : ∀ x, Rl e (dSl f (dLit (ea x)) lo hi ρ) (r x)) : Rl e (dSl f a lo hi ρ) (m >>= r) := Rl.bind ha h
theorem slL {f : PyData → Option Int → Option Int → Rs PyData} {m : Rs Int} {r : Int → Rs α} (ha : a ρ = .ok x) (hl : Rl some (lo ρ) m) (h : ∀ i, Rl e (dSl f (dLit x) (oLit (some i)) hi ρ) (r i)) : Rl e (dSl f a lo hi ρ) (m >>= r) := Rl.bindP ha (Rl.bind hl h)
theorem slU {f : PyData → Option Int → Option Int → Rs PyData} {m : Rs Int} {r : Int → Rs α} (ha : a ρ = .ok x) (hl : lo ρ = .ok l) (hu : Rl some (hi ρ) m) (h : ∀ i, Rl e (f x l (some i)) (r i)) : Rl e (dSl f a lo hi ρ) (m >>= r) := Rl.bindP ha (Rl.bindP hl (Rl.bind hu h))
theorem stP {f : PyData → Int → Rs PyData} {k : Int} (ha : a ρ = .ok x) (hl : lo ρ = .ok (some k)) (h : f x k = .ok z) : dSt f a lo ρ = .ok z := by
  show (a ρ >>= fun x => lo ρ >>= fun o => match o with | some k => f x k | none => stuck) = _
  rw [ha]
  show (lo ρ >>= fun o => match o with | some k => f x k | none => stuck) = _
  rw [hl]; exact h
theorem stR {f : PyData → Int → Rs PyData} {k : Int} {r : Rs α} (ha : a ρ = .ok x) (hl : lo ρ = .ok (some k)) (h : Rl e (f x k) r) : Rl e (dSt f a lo ρ) r := Rl.bindP ha (Rl.bindP hl h)
theorem stA {f : PyData → Int → Rs PyData} {ea : β → PyData} {m : Rs β} {r : β → Rs α} (ha : Rl ea (a ρ) m) (h : ∀ x, Rl e (dSt f (dLit (ea x)) lo ρ) (r x)) : Rl e (dSt f a lo ρ) (m >>= r) := Rl.bind ha h
/-! what is walked -/
theorem itP {xs : List PyData} (ha : a ρ = .ok x) (h : itemsD x = .ok xs) : iD a ρ = .ok xs := by
  show (a ρ >>= itemsD) = _
  rw [ha]; exact h
theorem itR {e : α → List PyData} {r : Rs α} (ha : a ρ = .ok x) (h : Rl e (itemsD x) r) : Rl e (iD a ρ) r := Rl.bindP ha h
theorem itA {e : α → List PyData} {ea : β → PyData} {m : Rs β} {r : β → Rs α} (ha : Rl ea (a ρ) m) (h : ∀ x, Rl e (itemsD (ea x)) (r x)) : Rl e (iD a ρ) (m >>= r) := Rl.bind ha h
end
/-! ### what is made of lists -/
section
variable {α β γ : Type}
def fmM (f : α → Rs (Option β)) : List α → Rs (List β)
  | [] => .ok []
  | x :: xs => f x >>= fun o => match o with
    | some y => fmM f xs >>= fun ys => .ok (y :: ys)
    | none => fmM f xs
/-- [.. for x in xs if ..] -/
def compM (xs : List α) (f : α → Rs (Option β)) : Rs (List β) := noExc (fmM f xs) >>= lenG
def flM (f : α → Rs (List β)) : List α → Rs (List β)
  | [] => .ok []
  | x :: xs => f x >>= fun ys => flM f xs >>= fun zs => .ok (ys ++ zs)
/-- two fors; f: what one item of the first gives -/
def compM2 (xs : List α) (f : α → Rs (List β)) : Rs (List β) := noExc (flM f xs) >>= lenG
variable {t t1 : Tg} {tt tt1 : DT} {ee : DE} {it it1 : DL} {ρ : EnvD} {vs vs1 : List Nat} {e : β → PyData} {ei : α → PyData}
theorem Rl.noExc {δ δ' : Type} {e : δ → δ'} {o : Rs δ'} {r : Rs δ} (h : Rl e o r) : Rl e (Den.noExc o) (Den.noExc r) := by
  cases r with
  | ok x =>
    have h : o = .ok (e x) := h
    rw [h]; rfl
  | error er => trivial
theorem Rl.lenG {o : Rs (List PyData)} {r : Rs (List β)} (h : Rl (List.map e) o r) : Rl (List.map e) (o >>= fun out => if okLen out.length then .ok out else Den.stuck) (r >>= Ty.lenG) :=
  Rl.bind h fun xs => by
    rw [List.length_map]
    unfold Ty.lenG
    by_cases h : xs.length ≤ 1000000
    · rw [if_pos h, if_pos (okLenN h)]; rfl
    · rw [if_neg h]; exact True.intro
/-- one item's part -/
def one1 (t : Tg) (tt : DT) (ee : DE) (ρ : EnvD) (d : PyData) : Rs (Option PyData) := t.d ρ d >>= fun ρ1 => tt ρ1 >>= fun b => if b then ee ρ1 >>= fun y => .ok (some y) else .ok none
theorem compL_step {ds : List PyData} {d : PyData} : compL t tt ee ρ (d :: ds) = (one1 t tt ee ρ d >>= fun o => match o with
    | some y => compL t tt ee ρ ds >>= fun ys => .ok (y :: ys)
    | none => compL t tt ee ρ ds) := by
  rw [compL]
  unfold one1
  cases t.d ρ d with
  | error er => rfl
  | ok ρ1 =>
    show (tt ρ1 >>= _) = ((tt ρ1 >>= _) >>= _)
    cases tt ρ1 with
    | error er => rfl
    | ok b =>
      cases b with
      | false => rfl
      | true =>
        show (ee ρ1 >>= _) = ((ee ρ1 >>= _) >>= _)
        cases ee ρ1 <;> rfl
theorem compL_rl {f : α → Rs (Option β)} : ∀ xs : List α, (∀ x, Rl (Option.map e) (one1 t tt ee ρ (ei x)) (f x)) → Rl (List.map e) (compL t tt ee ρ (xs.map ei)) (fmM f xs)
  | [], _ => rfl
  | x :: xs, h => by
    rw [List.map_cons, compL_step, fmM]
    refine Rl.bind (h x) fun o => ?_
    cases o with
    | none => exact compL_rl xs h
    | some y => exact Rl.bind (compL_rl xs h) fun ys => rfl
/-- a comprehension -/
theorem lcR {xs : List α} {f : α → Rs (Option β)} (hi : it ρ = .ok (xs.map ei)) (hw : t.within vs = true) (h : ∀ x, Rl (Option.map e) (one1 t tt ee (wipeD ρ vs) (ei x)) (f x)) : Rl (List.map e) (dComp it vs t tt ee ρ) (compM xs f) := by
  unfold dComp
  refine Rl.bindP hi ?_
  rw [if_pos hw]
  exact Rl.lenG (Rl.noExc (compL_rl xs h))
theorem lcA {m : Rs (List α)} {r : List α → Rs (List β)} (hi : Rl (List.map ei) (it ρ) m) (h : ∀ xs, Rl (List.map e) (dComp (fun _ => .ok (xs.map ei)) vs t tt ee ρ) (r xs)) : Rl (List.map e) (dComp it vs t tt ee ρ) (m >>= r) := Rl.bind hi h
theorem fmM_all {f : α → β} : ∀ xs : List α, fmM (fun x => .ok (some (f x))) xs = .ok (xs.map f)
  | [] => rfl
  | x :: xs => by
    rw [fmM, fmM_all xs]; rfl
theorem fmM_filter {p : α → Bool} {f : α → β} : ∀ xs : List α, fmM (fun x => .ok (if p x then some (f x) else none)) xs = .ok ((xs.filter p).map f)
  | [] => rfl
  | x :: xs => by
    rw [fmM, fmM_filter xs]
    show (match (if p x then some (f x) else none) with | some y => _ | none => _) = _
    rw [List.filter_cons]
    cases p x <;> rfl
/-- each item, without a test -/
theorem lcP {xs : List α} {f : α → β} (hi : it ρ = .ok (xs.map ei)) (hw : t.within vs = true) (h : ∀ x, one1 t tt ee (wipeD ρ vs) (ei x) = .ok (some (e (f x)))) : Rl (List.map e) (dComp it vs t tt ee ρ) (lenG (xs.map f)) := by
  have := lcR (f := fun x => .ok (some (f x))) hi hw fun x => (h x : Rl (Option.map e) _ (.ok (some (f x))))
  unfold compM at this
  rw [fmM_all] at this
  exact this
theorem lcF {xs : List α} {p : α → Bool} {f : α → β} (hi : it ρ = .ok (xs.map ei)) (hw : t.within vs = true) (h : ∀ x, one1 t tt ee (wipeD ρ vs) (ei x) = .ok (if p x then some (e (f x)) else none)) : Rl (List.map e) (dComp it vs t tt ee ρ) (lenG ((xs.filter p).map f)) := by
  have := lcR (e := e) (f := fun x => .ok (if p x then some (f x) else none)) hi hw fun x => by
    show _ = _
    rw [h x]
    cases p x <;> rfl
  unfold compM at this
  rw [fmM_filter] at this
  exact this
/-- the parts of one item -/
theorem one_m {ρ1 : EnvD} {d : PyData} {y : PyData} (ht : t.d ρ d = .ok ρ1) (hee : ee ρ1 = .ok y) : one1 t tYesD ee ρ d = .ok (some y) := by
  unfold one1
  rw [ht]
  show (tYesD ρ1 >>= fun b => if b then ee ρ1 >>= fun y => .ok (some y) else .ok none) = _
  show (ee ρ1 >>= fun y => .ok (some y)) = _
  rw [hee]; rfl
theorem one_f {ρ1 : EnvD} {d : PyData} {y : PyData} {p : Bool} (ht : t.d ρ d = .ok ρ1) (htt : tt ρ1 = .ok p) (hee : ee ρ1 = .ok y) : one1 t tt ee ρ d = .ok (if p then some y else none) := by
  unfold one1
  rw [ht]
  show (tt ρ1 >>= fun b => if b then ee ρ1 >>= fun y => .ok (some y) else .ok none) = _
  rw [htt]
  show (if p then ee ρ1 >>= fun y => .ok (some y) else .ok none) = _
  rw [hee]
  cases p <;> rfl
/-- no test; the value may fail -/
theorem one_R {ρ1 : EnvD} {d : PyData} {r : Rs β} (ht : t.d ρ d = .ok ρ1) (hee : Rl e (ee ρ1) r) : Rl (Option.map e) (one1 t tYesD ee ρ d) (r >>= fun y => .ok (some y)) := by
  unfold one1
  exact Rl.bindP ht (Rl.bindP (v := true) rfl (Rl.bind hee fun y => (rfl : (.ok (some (e y)) : Rs (Option PyData)) = _)))
/-- a test, then the value -/
theorem one_T {ρ1 : EnvD} {d : PyData} {p : Bool} {r : Rs β} (ht : t.d ρ d = .ok ρ1) (htt : tt ρ1 = .ok p) (hee : Rl e (ee ρ1) r) : Rl (Option.map e) (one1 t tt ee ρ d) (if p then r >>= fun y => .ok (some y) else .ok none) := by
  unfold one1
  refine Rl.bindP ht (Rl.bindP htt ?_)
  exact Rl.ite (fun _ => Rl.bind hee fun y => (rfl : (.ok (some (e y)) : Rs (Option PyData)) = _)) fun _ => rfl
theorem one_M {ρ1 : EnvD} {d : PyData} {m : Rs Bool} {r : Rs β} (ht : t.d ρ d = .ok ρ1) (htt : Rl eT (tt ρ1) m) (hee : Rl e (ee ρ1) r) : Rl (Option.map e) (one1 t tt ee ρ d) (m >>= fun p => if p then r >>= fun y => .ok (some y) else .ok none) := by
  unfold one1
  refine Rl.bindP ht (Rl.bind htt fun p => ?_)
  exact Rl.ite (fun _ => Rl.bind hee fun y => (rfl : (.ok (some (e y)) : Rs (Option PyData)) = _)) fun _ => rfl
/-! two fors -/
def one2 (t : Tg) (tt : DT) (it1 : DL) (vs1 : List Nat) (t1 : Tg) (tt1 : DT) (ee : DE) (ρ : EnvD) (d : PyData) : Rs (List PyData) := t.d ρ d >>= fun ρ1 => tt ρ1 >>= fun b => if b then it1 ρ1 >>= fun ds1 => compL t1 tt1 ee (wipeD ρ1 vs1) ds1 else .ok []
theorem comp2_step {ds : List PyData} {d : PyData} : comp2L t tt it1 vs1 t1 tt1 ee ρ (d :: ds) = (one2 t tt it1 vs1 t1 tt1 ee ρ d >>= fun xs => comp2L t tt it1 vs1 t1 tt1 ee ρ ds >>= fun ys => .ok (xs ++ ys)) := by
  rw [comp2L]
  unfold one2
  cases t.d ρ d with
  | error er => rfl
  | ok ρ1 =>
    show (tt ρ1 >>= _) = ((tt ρ1 >>= _) >>= _)
    cases tt ρ1 with
    | error er => rfl
    | ok b =>
      cases b with
      | false =>
        show comp2L t tt it1 vs1 t1 tt1 ee ρ ds = (comp2L t tt it1 vs1 t1 tt1 ee ρ ds >>= fun ys => .ok ([] ++ ys))
        cases comp2L t tt it1 vs1 t1 tt1 ee ρ ds <;> rfl
      | true =>
        show (it1 ρ1 >>= fun ds1 => _) = ((it1 ρ1 >>= fun ds1 => _) >>= _)
        cases it1 ρ1 with
        | error er => rfl
        | ok ds1 => rfl
theorem comp2L_rl {f : α → Rs (List β)} : ∀ xs : List α, (∀ x, Rl (List.map e) (one2 t tt it1 vs1 t1 tt1 ee ρ (ei x)) (f x)) → Rl (List.map e) (comp2L t tt it1 vs1 t1 tt1 ee ρ (xs.map ei)) (flM f xs)
  | [], _ => rfl
  | x :: xs, h => by
    rw [List.map_cons, comp2_step, flM]
    refine Rl.bind (h x) fun ys => Rl.bind (comp2L_rl xs h) fun zs => ?_
    show _ = _
    rw [List.map_append]
theorem lc2R {xs : List α} {f : α → Rs (List β)} (hi : it ρ = .ok (xs.map ei)) (hw : (t.within vs && t1.within vs1) = true) (h : ∀ x, Rl (List.map e) (one2 t tt it1 vs1 t1 tt1 ee (wipeD ρ vs) (ei x)) (f x)) : Rl (List.map e) (dComp2 it vs t tt it1 vs1 t1 tt1 ee ρ) (compM2 xs f) := by
  unfold dComp2
  refine Rl.bindP hi ?_
  rw [if_pos hw]
  exact Rl.lenG (Rl.noExc (comp2L_rl xs h))
theorem lc2A {m : Rs (List α)} {r : List α → Rs (List β)} (hi : Rl (List.map ei) (it ρ) m) (h : ∀ xs, Rl (List.map e) (dComp2 (fun _ => .ok (xs.map ei)) vs t tt it1 vs1 t1 tt1 ee ρ) (r xs)) : Rl (List.map e) (dComp2 it vs t tt it1 vs1 t1 tt1 ee ρ) (m >>= r) := Rl.bind hi h
/-- the inner for of one item of the outer one -/
theorem one2_m {ei1 : γ → PyData} {ρ1 : EnvD} {d : PyData} {ys : List γ} {g : γ → Rs (Option β)} (ht : t.d ρ d = .ok ρ1) (h1 : it1 ρ1 = .ok (ys.map ei1)) (h : ∀ y, Rl (Option.map e) (one1 t1 tt1 ee (wipeD ρ1 vs1) (ei1 y)) (g y)) : Rl (List.map e) (one2 t tYesD it1 vs1 t1 tt1 ee ρ d) (fmM g ys) := by
  unfold one2
  exact Rl.bindP ht (Rl.bindP (v := true) rfl (Rl.bindP h1 (compL_rl ys h)))
theorem one2_A {ei1 : γ → PyData} {ρ1 : EnvD} {d : PyData} {m : Rs (List γ)} {g : List γ → γ → Rs (Option β)} (ht : t.d ρ d = .ok ρ1) (h1 : Rl (List.map ei1) (it1 ρ1) m) (h : ∀ ys y, Rl (Option.map e) (one1 t1 tt1 ee (wipeD ρ1 vs1) (ei1 y)) (g ys y)) : Rl (List.map e) (one2 t tYesD it1 vs1 t1 tt1 ee ρ d) (m >>= fun ys => fmM (g ys) ys) := by
  unfold one2
  exact Rl.bindP ht (Rl.bindP (v := true) rfl (Rl.bind h1 fun ys => compL_rl ys (h ys)))
theorem one2_T {ei1 : γ → PyData} {ρ1 : EnvD} {d : PyData} {p : Bool} {ys : List γ} {g : γ → Rs (Option β)} (ht : t.d ρ d = .ok ρ1) (htt : tt ρ1 = .ok p) (h1 : it1 ρ1 = .ok (ys.map ei1)) (h : ∀ y, Rl (Option.map e) (one1 t1 tt1 ee (wipeD ρ1 vs1) (ei1 y)) (g y)) : Rl (List.map e) (one2 t tt it1 vs1 t1 tt1 ee ρ d) (if p then fmM g ys else .ok []) := by
  unfold one2
  exact Rl.bindP ht (Rl.bindP htt (Rl.ite (fun _ => Rl.bindP h1 (compL_rl ys h)) fun _ => rfl))
end
end Ty

set_option Elab.async false
set_option linter.all false
set_option maxRecDepth 100000
set_option maxHeartbeats 4000000
namespace Ty
open PySem PySem.Spec PyProof.Rows L2 Den
/-! ### statements -/
section
variable {α β γ σ J : Type}
/-- an end: what is stuck says nothing; errors go through -/
structure K1 (P : Rs Out → Rs β → Prop) (ρ : EnvD) : Prop where
  stk : ∀ o, P o (.error .stuck)
  exc : ∀ n p, P (.ok (.xc n p ρ)) (.error (.exc n p))
def KN (P : Rs Out → Rs β → Prop) : Prop := ∀ ρ, K1 P ρ
/-- the whole def's -/
def PF (e : α → PyData) (o : Rs Out) (r : Rs α) : Prop := Rl e (outD o) r
/-- goes on -/
def PN (En : σ → J → EnvD) (o : Rs Out) : Rs σ → Prop
  | .ok s => ∃ j, o = .ok (.nx (En s j))
  | .error .stuck => True
  | .error (.exc n p) => ∃ ρ, o = .ok (.xc n p ρ)
/-- a loop's body -/
def PL (En : σ → J → EnvD) (o : Rs Out) : Rs σ → Prop
  | .ok s => ∃ j, o = .ok (.nx (En s j)) ∨ o = .ok (.ct (En s j))
  | .error .stuck => True
  | .error (.exc n p) => ∃ ρ, o = .ok (.xc n p ρ)
inductive Sg (σ β : Type) where
  | go (s : σ)
  | brk (s : σ)
  | ret (b : β)
/-- a body that may return or break -/
def PX (En : σ → J → EnvD) (e : β → PyData) (o : Rs Out) : Rs (Sg σ β) → Prop
  | .ok (.go s) => ∃ j, o = .ok (.nx (En s j)) ∨ o = .ok (.ct (En s j))
  | .ok (.brk s) => ∃ j, o = .ok (.bk (En s j))
  | .ok (.ret b) => o = .ok (.rt (e b))
  | .error .stuck => True
  | .error (.exc n p) => ∃ ρ, o = .ok (.xc n p ρ)
theorem kF {e : α → PyData} : KN (PF e) := fun ρ => ⟨fun _ => trivial, fun _ _ => rfl⟩
theorem kN {En : σ → J → EnvD} : KN (PN En) := fun ρ => ⟨fun _ => trivial, fun _ _ => ⟨ρ, rfl⟩⟩
theorem kL {En : σ → J → EnvD} : KN (PL En) := fun ρ => ⟨fun _ => trivial, fun _ _ => ⟨ρ, rfl⟩⟩
theorem kX {En : σ → J → EnvD} {e : β → PyData} : KN (PX En e) := fun ρ => ⟨fun _ => trivial, fun _ _ => ⟨ρ, rfl⟩⟩
/-- what is returned -/
def KR (P : Rs Out → Rs γ → Prop) (e : β → PyData) (ret : β → γ) : Prop := ∀ x, P (.ok (.rt (e x))) (.ok (ret x))
theorem rF {e : α → PyData} : KR (PF e) e (fun x => x) := fun _ => rfl
theorem rX {En : σ → J → EnvD} {e : β → PyData} : KR (PX En e) e Sg.ret := fun _ => rfl
variable {P : Rs Out → Rs β → Prop} {ρ : EnvD} {e : DE} {rest a b : DS} {i : Nat} {r : Rs β}
theorem lifP {δ : Type} {o : Rs δ} {v : δ} {k : δ → Rs Out} (h : o = .ok v) (h' : P (k v) r) : P (lift o ρ k) r := by rw [h]; exact h'
theorem lifM {δ : Type} (K : K1 P ρ) {ee : α → δ} {o : Rs δ} {m : Rs α} {k : δ → Rs Out} {r : α → Rs β} (h : Rl ee o m) (h' : ∀ x, P (k (ee x)) (r x)) : P (lift o ρ k) (m >>= r) := by
  cases m with
  | ok x =>
    have h : o = .ok (ee x) := h
    rw [h]; exact h' x
  | error er =>
    cases er with
    | stuck => exact K.stk _
    | exc n p =>
      have h : o = .error (.exc n p) := h
      rw [h]; exact K.exc n p
/-- a statement, then the rest -/
theorem sq_lift {δ : Type} {o : Rs δ} {k : δ → Rs Out} {K : EnvD → Rs Out} : (match lift o ρ k with | .ok (.nx ρ') => K ρ' | r => r) = lift o ρ fun v => match k v with | .ok (.nx ρ') => K ρ' | r => r := by
  cases o with
  | ok v => rfl
  | error er => cases er <;> rfl
theorem one (h : P (sSeq a sSkip ρ) r) : P (a ρ) r := by
  have : sSeq a sSkip ρ = a ρ := by
    show (match a ρ with | .ok (.nx ρ') => (.ok (.nx ρ') : Rs Out) | r => r) = _
    cases a ρ with
    | error er => rfl
    | ok o => cases o <;> rfl
  rw [this] at h; exact h
theorem asc {c : DS} (h : P (sSeq a (sSeq b c) ρ) r) : P (sSeq (sSeq a b) c ρ) r := by
  have : sSeq a (sSeq b c) ρ = sSeq (sSeq a b) c ρ := by
    show (match a ρ with | .ok (.nx ρ') => sSeq b c ρ' | r => r) = (match (match a ρ with | .ok (.nx ρ') => b ρ' | r => r) with | .ok (.nx ρ') => c ρ' | r => r)
    cases a ρ with
    | error er => rfl
    | ok o => cases o <;> rfl
  rw [← this]; exact h
theorem sqSkip (h : P (rest ρ) r) : P (sSeq sSkip rest ρ) r := h
theorem sqSet {v : PyData} (he : e ρ = .ok v) (h : P (rest (ρ.set i (.dat v))) r) : P (sSeq (sSet i e) rest ρ) r := by
  have : sSeq (sSet i e) rest ρ = rest (ρ.set i (.dat v)) := by
    show (match lift (e ρ) ρ _ with | .ok (.nx ρ') => rest ρ' | r => r) = _
    rw [he]; rfl
  rw [this]; exact h
theorem sqSetM (K : K1 P ρ) {ee : α → PyData} {m : Rs α} {r : α → Rs β} (he : Rl ee (e ρ) m) (h : ∀ x, P (rest (ρ.set i (.dat (ee x)))) (r x)) : P (sSeq (sSet i e) rest ρ) (m >>= r) := by
  show P (match lift (e ρ) ρ _ with | .ok (.nx ρ') => rest ρ' | r => r) _
  rw [sq_lift]
  exact lifM K he h
/-- the same, with the value named -/
theorem sqSetN {ee : α → PyData} {x : α} {r : α → Rs β} (K : K1 P ρ) (he : e ρ = .ok (ee x)) (h : ∀ x, P (rest (ρ.set i (.dat (ee x)))) (r x)) : P (sSeq (sSet i e) rest ρ) (.ok x >>= r) := sqSetM K (m := .ok x) he h
theorem sqOwnM {c : DL} (K : K1 P ρ) {ee : α → PyData} {m : Rs (List α)} {r : List α → Rs β} (he : Rl (List.map ee) (c ρ) m) (h : ∀ x : List α, P (rest (ρ.set i (.ol (x.map ee)))) (r x)) : P (sSeq (sOwn i c) rest ρ) (m >>= r) := by
  show P (match lift (c ρ) ρ _ with | .ok (.nx ρ') => rest ρ' | r => r) _
  rw [sq_lift]
  exact lifM K he h
theorem sqOwnN {c : DL} (K : K1 P ρ) {ee : α → PyData} {x : List α} {r : List α → Rs β} (he : c ρ = .ok (x.map ee)) (h : ∀ x : List α, P (rest (ρ.set i (.ol (x.map ee)))) (r x)) : P (sSeq (sOwn i c) rest ρ) (.ok x >>= r) := sqOwnM K (m := .ok x) he h
theorem sqTgM {t : Tg} (K : K1 P ρ) {ee : α → PyData} {m : Rs α} {r : α → Rs β} {F : α → EnvD} (he : Rl ee (e ρ) m) (ht : ∀ x, t.d ρ (ee x) = .ok (F x)) (h : ∀ x, P (rest (F x)) (r x)) : P (sSeq (sTg t e) rest ρ) (m >>= r) := by
  show P (match lift (e ρ) ρ _ with | .ok (.nx ρ') => rest ρ' | r => r) _
  rw [sq_lift]
  refine lifM K he fun x => ?_
  rw [ht x]; exact h x
theorem sqTgN {t : Tg} (K : K1 P ρ) {ee : α → PyData} {x : α} {r : α → Rs β} {F : α → EnvD} (he : e ρ = .ok (ee x)) (ht : ∀ x, t.d ρ (ee x) = .ok (F x)) (h : ∀ x, P (rest (F x)) (r x)) : P (sSeq (sTg t e) rest ρ) (.ok x >>= r) := sqTgM K (m := .ok x) he ht h
theorem sqDrop {v : PyData} (he : e ρ = .ok v) (h : P (rest ρ) r) : P (sSeq (sDrop e) rest ρ) r := by
  have : sSeq (sDrop e) rest ρ = rest ρ := by
    show (match lift (e ρ) ρ _ with | .ok (.nx ρ') => rest ρ' | r => r) = _
    rw [he]; rfl
  rw [this]; exact h
theorem sqDropM (K : K1 P ρ) {ee : α → PyData} {m : Rs α} {r : Rs β} (he : Rl ee (e ρ) m) (h : P (rest ρ) r) : P (sSeq (sDrop e) rest ρ) (m >>= fun _ => r) := by
  show P (match lift (e ρ) ρ _ with | .ok (.nx ρ') => rest ρ' | r => r) _
  rw [sq_lift]
  exact lifM K he fun _ => h
def rz {α : Type} (n : String) : Rs α := .error (.exc n none)
theorem sqRaise {n : String} (K : K1 P ρ) : P (sSeq (sRaise n) rest ρ) (rz n) := K.exc n none
theorem raise1 {n : String} (K : K1 P ρ) : P (sRaise n ρ) (rz n) := K.exc n none
theorem sq_rt {s : DS} {d : PyData} (h : s ρ = .ok (.rt d)) : sSeq s rest ρ = .ok (.rt d) := by
  show (match s ρ with | .ok (.nx ρ') => rest ρ' | r => r) = _
  rw [h]
/-- return, at the def's own level -/
theorem retF {ee : α → PyData} {r : Rs α} (h : Rl ee (e ρ) r) : PF ee (sRet e ρ) r := by
  show Rl ee (outD (lift (e ρ) ρ _)) r
  cases r with
  | ok x =>
    have h : e ρ = .ok (ee x) := h
    rw [h]; rfl
  | error er =>
    cases er with
    | stuck => trivial
    | exc n p =>
      have h : e ρ = .error (.exc n p) := h
      rw [h]; rfl
theorem sqRetF {ee : α → PyData} {r : Rs α} (h : Rl ee (e ρ) r) : PF ee (sSeq (sRet e) rest ρ) r := by
  have : outD (sSeq (sRet e) rest ρ) = outD (sRet e ρ) := by
    show outD (match lift (e ρ) ρ _ with | .ok (.nx ρ') => rest ρ' | r => r) = outD (lift (e ρ) ρ _)
    cases e ρ with
    | ok v => rfl
    | error er => cases er <;> rfl
  show Rl ee (outD (sSeq (sRet e) rest ρ)) r
  rw [this]; exact retF h
theorem ret1 {ee : α → PyData} {ret : α → β} {x : α} (hr : KR P ee ret) (h : e ρ = .ok (ee x)) : P (sRet e ρ) (.ok (ret x)) := lifP h (hr x)
theorem ret1M {ee : α → PyData} {ret : α → β} {m : Rs α} (K : K1 P ρ) (hr : KR P ee ret) (h : Rl ee (e ρ) m) : P (sRet e ρ) (m >>= fun x => .ok (ret x)) := lifM K h fun x => hr x
theorem sqRet {ee : α → PyData} {ret : α → β} {x : α} (hr : KR P ee ret) (h : e ρ = .ok (ee x)) : P (sSeq (sRet e) rest ρ) (.ok (ret x)) := by
  show P (match lift (e ρ) ρ _ with | .ok (.nx ρ') => rest ρ' | r => r) _
  rw [sq_lift]; exact lifP h (hr x)
theorem sqRetM {ee : α → PyData} {ret : α → β} {m : Rs α} (K : K1 P ρ) (hr : KR P ee ret) (h : Rl ee (e ρ) m) : P (sSeq (sRet e) rest ρ) (m >>= fun x => .ok (ret x)) := by
  show P (match lift (e ρ) ρ _ with | .ok (.nx ρ') => rest ρ' | r => r) _
  rw [sq_lift]; exact lifM K h fun x => hr x
theorem retOwn {ee : α → PyData} {ret : List α → β} {xs : List α} (hr : KR P (eLst ee) ret) (h : ρ[i]? = some (.ol (xs.map ee))) : P (sRetOwn i ρ) (.ok (ret xs)) := by
  have : sRetOwn i ρ = .ok (.rt (.list (xs.map ee))) := by
    show (match ρ[i]? with | some (.ol ds) => (.ok (.rt (.list ds)) : Rs Out) | some (.dat d) => .ok (.rt d) | _ => stuck) = _
    rw [h]
  rw [this]; exact hr xs
theorem sqRetOwn {ee : α → PyData} {ret : List α → β} {xs : List α} (hr : KR P (eLst ee) ret) (h : ρ[i]? = some (.ol (xs.map ee))) : P (sSeq (sRetOwn i) rest ρ) (.ok (ret xs)) := by
  rw [sq_rt (d := .list (xs.map ee)) (by
    show (match ρ[i]? with | some (.ol ds) => (.ok (.rt (.list ds)) : Rs Out) | some (.dat d) => .ok (.rt d) | _ => stuck) = _
    rw [h])]
  exact hr xs
/-- the def's end without a return -/
theorem endF {ee : α → PyData} {x : α} (h : ee x = .none) : PF ee (sSkip ρ) (.ok x) := by
  show (.ok .none : Rs PyData) = .ok (ee x)
  rw [h]
theorem endN {En : σ → J → EnvD} {s : σ} (j : J) (h : ρ = En s j) : PN En (sSkip ρ) (.ok s) := ⟨j, by rw [h]; rfl⟩
theorem endL {En : σ → J → EnvD} {s : σ} (j : J) (h : ρ = En s j) : PL En (sSkip ρ) (.ok s) := ⟨j, .inl (by rw [h]; rfl)⟩
theorem endX {En : σ → J → EnvD} {ee : γ → PyData} {s : σ} (j : J) (h : ρ = En s j) : PX En ee (sSkip ρ) (.ok (.go s)) := ⟨j, .inl (by rw [h]; rfl)⟩
theorem brkX {En : σ → J → EnvD} {ee : γ → PyData} {s : σ} (j : J) (h : ρ = En s j) : PX En ee (sBreak ρ) (.ok (.brk s)) := ⟨j, by rw [h]; rfl⟩
theorem sqBrkX {En : σ → J → EnvD} {ee : γ → PyData} {s : σ} (j : J) (h : ρ = En s j) : PX En ee (sSeq sBreak rest ρ) (.ok (.brk s)) := ⟨j, by rw [h]; rfl⟩
theorem cntX {En : σ → J → EnvD} {ee : γ → PyData} {s : σ} (j : J) (h : ρ = En s j) : PX En ee (sCont ρ) (.ok (.go s)) := ⟨j, .inr (by rw [h]; rfl)⟩
theorem sqCntX {En : σ → J → EnvD} {ee : γ → PyData} {s : σ} (j : J) (h : ρ = En s j) : PX En ee (sSeq sCont rest ρ) (.ok (.go s)) := ⟨j, .inr (by rw [h]; rfl)⟩
theorem sqCntL {En : σ → J → EnvD} {s : σ} (j : J) (h : ρ = En s j) : PL En (sSeq sCont rest ρ) (.ok s) := ⟨j, .inr (by rw [h]; rfl)⟩
/-! choices -/
variable {t : DT} {p : Bool}
theorem sqIf {r1 r2 : Rs β} (ht : t ρ = .ok p) (h1 : P (sSeq a rest ρ) r1) (h2 : P (sSeq b rest ρ) r2) : P (sSeq (sIf t a b) rest ρ) (if p then r1 else r2) := by
  have : sSeq (sIf t a b) rest ρ = if p then sSeq a rest ρ else sSeq b rest ρ := by
    show (match lift (t ρ) ρ _ with | .ok (.nx ρ') => rest ρ' | r => r) = _
    rw [ht]
    cases p <;> rfl
  rw [this]
  cases p
  · exact h2
  · exact h1
theorem sqIfM {m : Rs Bool} {r1 r2 : Rs β} (K : K1 P ρ) (ht : Rl eT (t ρ) m) (h1 : P (sSeq a rest ρ) r1) (h2 : P (sSeq b rest ρ) r2) : P (sSeq (sIf t a b) rest ρ) (m >>= fun p => if p then r1 else r2) := by
  show P (match lift (t ρ) ρ _ with | .ok (.nx ρ') => rest ρ' | r => r) _
  rw [sq_lift]
  refine lifM K ht fun p => ?_
  cases p
  · exact h2
  · exact h1
theorem sqIfT {r1 : Rs β} (ht : t ρ = .ok true) (h1 : P (sSeq a rest ρ) r1) : P (sSeq (sIf t a b) rest ρ) r1 := by
  have : sSeq (sIf t a b) rest ρ = sSeq a rest ρ := by
    show (match lift (t ρ) ρ _ with | .ok (.nx ρ') => rest ρ' | r => r) = _
    rw [ht]; rfl
  rw [this]; exact h1
theorem sqIfF {r1 : Rs β} (ht : t ρ = .ok false) (h1 : P (sSeq b rest ρ) r1) : P (sSeq (sIf t a b) rest ρ) r1 := by
  have : sSeq (sIf t a b) rest ρ = sSeq b rest ρ := by
    show (match lift (t ρ) ρ _ with | .ok (.nx ρ') => rest ρ' | r => r) = _
    rw [ht]; rfl
  rw [this]; exact h1
/-- a statement that always goes on, its state named -/
theorem sqJoin {s : DS} {En : σ → J → EnvD} {m : Rs σ} {r : σ → Rs β} (K : KN P) (h : PN En (s ρ) m) (hr : ∀ x j, P (rest (En x j)) (r x)) : P (sSeq s rest ρ) (m >>= r) := by
  show P (match s ρ with | .ok (.nx ρ') => rest ρ' | r => r) _
  cases m with
  | ok x =>
    obtain ⟨j, h⟩ := (h : ∃ j, _)
    rw [h]; exact hr x j
  | error er =>
    cases er with
    | stuck => exact (K ρ).stk _
    | exc n p =>
      obtain ⟨ρ', h⟩ := (h : ∃ ρ', _)
      rw [h]; exact (K ρ').exc n p
/-! loops -/
def forT (f : α → σ → Rs σ) : List α → σ → Rs σ
  | [], s => .ok s
  | x :: xs, s => f x s >>= fun s' => forT f xs s'
/-- with return and break: what is left, or what is returned -/
def forX (f : α → σ → Rs (Sg σ β)) : List α → σ → Rs (Sum σ β)
  | [], s => .ok (.inl s)
  | x :: xs, s => f x s >>= fun g => match g with
    | .go s' => forX f xs s'
    | .brk s' => .ok (.inl s')
    | .ret b => .ok (.inr b)
def contF (K : EnvD → Rs Out) : Out → Rs Out
  | .nx ρ => K ρ
  | .ct ρ => K ρ
  | .bk ρ => .ok (.nx ρ)
  | o => .ok o
theorem forD_cons {tg : Tg} {d : PyData} {ds : List PyData} : forD tg b (d :: ds) ρ = ((tg.d ρ d >>= b) >>= contF (forD tg b ds)) := by
  rw [forD]
  cases tg.d ρ d with
  | error er => rfl
  | ok ρ1 =>
    show (b ρ1 >>= _) = (b ρ1 >>= _)
    cases b ρ1 with
    | error er => rfl
    | ok o => cases o <;> rfl
theorem forD_T {En : σ → J → EnvD} {tg : Tg} {ei : α → PyData} {f : α → σ → Rs σ} (hb : ∀ x s j, PL En (tg.d (En s j) (ei x) >>= b) (f x s)) : ∀ (xs : List α) (s : σ) (j : J), PN En (forD tg b (xs.map ei) (En s j)) (forT f xs s)
  | [], s, j => ⟨j, rfl⟩
  | x :: xs, s, j => by
    rw [List.map_cons, forD_cons, forT]
    have h := hb x s j
    cases hf : f x s with
    | ok s' =>
      rw [hf] at h
      obtain ⟨j', h | h⟩ := (h : ∃ j', _)
      · rw [h]; exact forD_T hb xs s' j'
      · rw [h]; exact forD_T hb xs s' j'
    | error er =>
      rw [hf] at h
      cases er with
      | stuck => trivial
      | exc n p =>
        obtain ⟨ρ', h⟩ := (h : ∃ ρ', _)
        rw [h]; exact ⟨ρ', rfl⟩
theorem sqFor {tg : Tg} {it : DL} {En : σ → J → EnvD} {ei : α → PyData} {f : α → σ → Rs σ} {xs : List α} {s0 : σ} {r : σ → Rs β} (K : KN P) (hi : it ρ = .ok (xs.map ei)) (j0 : J) (h0 : ρ = En s0 j0) (hb : ∀ x s j, PL En (tg.d (En s j) (ei x) >>= b) (f x s)) (hr : ∀ s j, P (rest (En s j)) (r s)) :
    P (sSeq (sFor it tg b) rest ρ) (forT f xs s0 >>= r) := by
  refine sqJoin K ?_ hr
  show PN En (lift (it ρ) ρ fun ds => forD tg b ds ρ) _
  rw [hi, h0]
  exact forD_T hb xs s0 j0
theorem sqForM {tg : Tg} {it : DL} {En : σ → J → EnvD} {ei : α → PyData} {f : α → σ → Rs σ} {m : Rs (List α)} {s0 : σ} {r : σ → Rs β} (K : KN P) (hi : Rl (List.map ei) (it ρ) m) (j0 : J) (h0 : ρ = En s0 j0) (hb : ∀ x s j, PL En (tg.d (En s j) (ei x) >>= b) (f x s)) (hr : ∀ s j, P (rest (En s j)) (r s)) :
    P (sSeq (sFor it tg b) rest ρ) (m >>= fun xs => forT f xs s0 >>= r) := by
  have : (m >>= fun xs => forT f xs s0 >>= r) = ((m >>= fun xs => forT f xs s0) >>= r) := by cases m <;> rfl
  rw [this]
  refine sqJoin K ?_ hr
  show PN En (lift (it ρ) ρ fun ds => forD tg b ds ρ) _
  refine lifM (kN _) hi fun xs => ?_
  rw [h0]
  exact forD_T hb xs s0 j0
/-- what a loop with returns leaves -/
def PU (En : σ → J → EnvD) (e : γ → PyData) (o : Rs Out) : Rs (Sum σ γ) → Prop
  | .ok (.inl s) => ∃ j, o = .ok (.nx (En s j))
  | .ok (.inr b) => o = .ok (.rt (e b))
  | .error .stuck => True
  | .error (.exc n p) => ∃ ρ, o = .ok (.xc n p ρ)
theorem kU {En : σ → J → EnvD} {e : γ → PyData} : KN (PU En e) := fun ρ => ⟨fun _ => trivial, fun _ _ => ⟨ρ, rfl⟩⟩
theorem forD_X {En : σ → J → EnvD} {ee : γ → PyData} {tg : Tg} {ei : α → PyData} {f : α → σ → Rs (Sg σ γ)} (hb : ∀ x s j, PX En ee (tg.d (En s j) (ei x) >>= b) (f x s)) : ∀ (xs : List α) (s : σ) (j : J), PU En ee (forD tg b (xs.map ei) (En s j)) (forX f xs s)
  | [], s, j => ⟨j, rfl⟩
  | x :: xs, s, j => by
    rw [List.map_cons, forD_cons, forX]
    have h := hb x s j
    cases hf : f x s with
    | ok g =>
      rw [hf] at h
      cases g with
      | go s' =>
        obtain ⟨j', h | h⟩ := (h : ∃ j', _)
        · rw [h]; exact forD_X hb xs s' j'
        · rw [h]; exact forD_X hb xs s' j'
      | brk s' =>
        obtain ⟨j', h⟩ := (h : ∃ j', _)
        rw [h]; exact ⟨j', rfl⟩
      | ret y =>
        have h : (tg.d (En s j) (ei x) >>= b) = .ok (.rt (ee y)) := h
        rw [h]; exact (rfl : (.ok (.rt (ee y)) : Rs Out) = _)
    | error er =>
      rw [hf] at h
      cases er with
      | stuck => trivial
      | exc n p =>
        obtain ⟨ρ', h⟩ := (h : ∃ ρ', _)
        rw [h]; exact ⟨ρ', rfl⟩
/-- what follows a loop with returns -/
def afterX (r : σ → Rs β) (ret : γ → β) : Sum σ γ → Rs β
  | .inl s => r s
  | .inr b => .ok (ret b)
theorem sqJoinX {s : DS} {En : σ → J → EnvD} {ee : γ → PyData} {m : Rs (Sum σ γ)} {r : σ → Rs β} {ret : γ → β} (K : KN P) (R : KR P ee ret) (h : PU En ee (s ρ) m) (hr : ∀ x j, P (rest (En x j)) (r x)) : P (sSeq s rest ρ) (m >>= afterX r ret) := by
  show P (match s ρ with | .ok (.nx ρ') => rest ρ' | r => r) _
  cases m with
  | ok x =>
    cases x with
    | inl x =>
      obtain ⟨j, h⟩ := (h : ∃ j, _)
      rw [h]; exact hr x j
    | inr y =>
      have h : s ρ = .ok (.rt (ee y)) := h
      rw [h]; exact R y
  | error er =>
    cases er with
    | stuck => exact (K ρ).stk _
    | exc n p =>
      obtain ⟨ρ', h⟩ := (h : ∃ ρ', _)
      rw [h]; exact (K ρ').exc n p
theorem sqForX {tg : Tg} {it : DL} {En : σ → J → EnvD} {ee : γ → PyData} {ei : α → PyData} {f : α → σ → Rs (Sg σ γ)} {xs : List α} {s0 : σ} {r : σ → Rs β} {ret : γ → β} (K : KN P) (R : KR P ee ret) (hi : it ρ = .ok (xs.map ei)) (j0 : J) (h0 : ρ = En s0 j0) (hb : ∀ x s j, PX En ee (tg.d (En s j) (ei x) >>= b) (f x s)) (hr : ∀ s j, P (rest (En s j)) (r s)) :
    P (sSeq (sFor it tg b) rest ρ) (forX f xs s0 >>= afterX r ret) := by
  refine sqJoinX K R ?_ hr
  show PU En ee (lift (it ρ) ρ fun ds => forD tg b ds ρ) _
  rw [hi, h0]
  exact forD_X hb xs s0 j0
theorem sqForXM {tg : Tg} {it : DL} {En : σ → J → EnvD} {ee : γ → PyData} {ei : α → PyData} {f : α → σ → Rs (Sg σ γ)} {m : Rs (List α)} {s0 : σ} {r : σ → Rs β} {ret : γ → β} (K : KN P) (R : KR P ee ret) (hi : Rl (List.map ei) (it ρ) m) (j0 : J) (h0 : ρ = En s0 j0) (hb : ∀ x s j, PX En ee (tg.d (En s j) (ei x) >>= b) (f x s)) (hr : ∀ s j, P (rest (En s j)) (r s)) :
    P (sSeq (sFor it tg b) rest ρ) (m >>= fun xs => forX f xs s0 >>= afterX r ret) := by
  have : (m >>= fun xs => forX f xs s0 >>= afterX r ret) = ((m >>= fun xs => forX f xs s0) >>= afterX r ret) := by cases m <;> rfl
  rw [this]
  refine sqJoinX K R ?_ hr
  show PU En ee (lift (it ρ) ρ fun ds => forD tg b ds ρ) _
  refine lifM (kU _) hi fun xs => ?_
  rw [h0]
  exact forD_X hb xs s0 j0
/-- the target of a turn -/
theorem tgt {δ : Type} {P : Rs Out → Rs δ → Prop} {r : Rs δ} {tg : Tg} {d : PyData} {ρ1 : EnvD} (h : tg.d ρ d = .ok ρ1) (h' : P (b ρ1) r) : P (tg.d ρ d >>= b) r := by
  rw [h]; exact h'
/-! while -/
def whileT (c : σ → Rs Bool) (f : σ → Rs σ) : Nat → σ → Rs σ
  | 0, _ => stuck
  | n + 1, s => c s >>= fun k => if k then f s >>= fun s' => whileT c f n s' else .ok s
def whileX (c : σ → Rs Bool) (f : σ → Rs (Sg σ β)) : Nat → σ → Rs (Sum σ β)
  | 0, _ => stuck
  | n + 1, s => c s >>= fun k => if k then f s >>= fun g => match g with
      | .go s' => whileX c f n s'
      | .brk s' => .ok (.inl s')
      | .ret b => .ok (.inr b)
    else .ok (.inl s)
theorem whileD_T {En : σ → J → EnvD} {c : σ → Rs Bool} {f : σ → Rs σ} (hc : ∀ s j, Rl eT (t (En s j)) (c s)) (hb : ∀ s j, PL En (b (En s j)) (f s)) : ∀ (n : Nat) (s : σ) (j : J), PN En (whileD t b n (En s j)) (whileT c f n s)
  | 0, s, j => trivial
  | n + 1, s, j => by
    rw [whileD, whileT]
    refine lifM (kN _) (hc s j) fun k => ?_
    cases k with
    | false => exact ⟨j, rfl⟩
    | true =>
      show PN En (b (En s j) >>= _) (f s >>= fun s' => whileT c f n s')
      have h := hb s j
      cases hf : f s with
      | ok s' =>
        rw [hf] at h
        obtain ⟨j', h | h⟩ := (h : ∃ j', _)
        · rw [h]; exact whileD_T hc hb n s' j'
        · rw [h]; exact whileD_T hc hb n s' j'
      | error er =>
        rw [hf] at h
        cases er with
        | stuck => trivial
        | exc n p =>
          obtain ⟨ρ', h⟩ := (h : ∃ ρ', _)
          rw [h]; exact ⟨ρ', rfl⟩
theorem whileD_X {En : σ → J → EnvD} {ee : γ → PyData} {c : σ → Rs Bool} {f : σ → Rs (Sg σ γ)} (hc : ∀ s j, Rl eT (t (En s j)) (c s)) (hb : ∀ s j, PX En ee (b (En s j)) (f s)) : ∀ (n : Nat) (s : σ) (j : J), PU En ee (whileD t b n (En s j)) (whileX c f n s)
  | 0, s, j => trivial
  | n + 1, s, j => by
    rw [whileD, whileX]
    refine lifM (kU _) (hc s j) fun k => ?_
    cases k with
    | false => exact ⟨j, rfl⟩
    | true =>
      show PU En ee (b (En s j) >>= _) (f s >>= _)
      have h := hb s j
      cases hf : f s with
      | ok g =>
        rw [hf] at h
        cases g with
        | go s' =>
          obtain ⟨j', h | h⟩ := (h : ∃ j', _)
          · rw [h]; exact whileD_X hc hb n s' j'
          · rw [h]; exact whileD_X hc hb n s' j'
        | brk s' =>
          obtain ⟨j', h⟩ := (h : ∃ j', _)
          rw [h]; exact ⟨j', rfl⟩
        | ret y =>
          have h : b (En s j) = .ok (.rt (ee y)) := h
          rw [h]; exact (rfl : (.ok (.rt (ee y)) : Rs Out) = _)
      | error er =>
        rw [hf] at h
        cases er with
        | stuck => trivial
        | exc n p =>
          obtain ⟨ρ', h⟩ := (h : ∃ ρ', _)
          rw [h]; exact ⟨ρ', rfl⟩
theorem sqWhile {fuel : Nat} {En : σ → J → EnvD} {c : σ → Rs Bool} {f : σ → Rs σ} {s0 : σ} {r : σ → Rs β} (K : KN P) (j0 : J) (h0 : ρ = En s0 j0) (hc : ∀ s j, Rl eT (t (En s j)) (c s)) (hb : ∀ s j, PL En (b (En s j)) (f s)) (hr : ∀ s j, P (rest (En s j)) (r s)) : P (sSeq (sWhile fuel t b) rest ρ) (whileT c f fuel s0 >>= r) := by
  refine sqJoin K ?_ hr
  rw [h0]
  exact whileD_T hc hb fuel s0 j0
theorem sqWhileX {fuel : Nat} {En : σ → J → EnvD} {ee : γ → PyData} {c : σ → Rs Bool} {f : σ → Rs (Sg σ γ)} {s0 : σ} {r : σ → Rs β} {ret : γ → β} (K : KN P) (R : KR P ee ret) (j0 : J) (h0 : ρ = En s0 j0) (hc : ∀ s j, Rl eT (t (En s j)) (c s)) (hb : ∀ s j, PX En ee (b (En s j)) (f s)) (hr : ∀ s j, P (rest (En s j)) (r s)) : P (sSeq (sWhile fuel t b) rest ρ) (whileX c f fuel s0 >>= afterX r ret) := by
  refine sqJoinX K R ?_ hr
  rw [h0]
  exact whileD_X hc hb fuel s0 j0
/-! a list of one's own changes -/
def pushG (xs : List α) (y : α) : Rs (List α) := if xs.length ≤ 1000000 then .ok (xs ++ [y]) else stuck
def extG (xs ys : List α) : Rs (List α) := if xs.length + ys.length ≤ 1000000 then .ok (xs ++ ys) else stuck
theorem slot_upd {cs : DL} {f : List PyData → List PyData → Rs (List PyData)} {ds : List PyData} (h : ρ[i]? = some (.ol ds)) : sUpd i cs f ρ = lift (cs ρ) ρ fun as => f ds as >>= fun ds' => .ok (.nx (ρ.set i (.ol ds'))) := by
  show (match ρ[i]? with | some (.ol ds) => lift (cs ρ) ρ fun as => f ds as >>= fun ds' => .ok (.nx (ρ.set i (.ol ds'))) | _ => stuck) = _
  rw [h]
theorem sqApp {ee : α → PyData} {xs : List α} {y : α} {r : List α → Rs β} (K : K1 P ρ) (h : ρ[i]? = some (.ol (xs.map ee))) (he : e ρ = .ok (ee y)) (hr : ∀ zs : List α, P (rest (ρ.set i (.ol (zs.map ee)))) (r zs)) : P (sSeq (sUpd i (dCons e dNil) appF) rest ρ) (pushG xs y >>= r) := by
  show P (match sUpd i (dCons e dNil) appF ρ with | .ok (.nx ρ') => rest ρ' | r => r) _
  rw [slot_upd h]
  have : dCons e dNil ρ = .ok [ee y] := by
    show (e ρ >>= fun x => dNil ρ >>= fun xs => .ok (x :: xs)) = _
    rw [he]; rfl
  rw [this]
  unfold pushG
  by_cases hl : xs.length ≤ 1000000
  · rw [if_pos hl]
    have hs : (xs.map ee).length < sizeLine := by rw [List.length_map, sizeLine_eq]; omega
    have : appF (xs.map ee) [ee y] = .ok ((xs ++ [y]).map ee) := by
      show (if _ then _ else _) = _
      rw [if_pos hs, List.map_append]; rfl
    show P (match (appF (xs.map ee) [ee y] >>= fun ds' => (.ok (.nx (ρ.set i (.ol ds'))) : Rs Out)) with | .ok (.nx ρ') => rest ρ' | r => r) _
    rw [this]
    exact hr _
  · rw [if_neg hl]; exact K.stk _
theorem sqAppM {ee : α → PyData} {xs : List α} {m : Rs α} {r : List α → Rs β} (K : K1 P ρ) (h : ρ[i]? = some (.ol (xs.map ee))) (he : Rl ee (e ρ) m) (hr : ∀ zs : List α, P (rest (ρ.set i (.ol (zs.map ee)))) (r zs)) : P (sSeq (sUpd i (dCons e dNil) appF) rest ρ) (m >>= fun y => pushG xs y >>= r) := by
  cases m with
  | ok y => exact sqApp K h he hr
  | error er =>
    cases er with
    | stuck => exact K.stk _
    | exc n p =>
      have he : e ρ = .error (.exc n p) := he
      have : sSeq (sUpd i (dCons e dNil) appF) rest ρ = .ok (.xc n p ρ) := by
        show (match sUpd i (dCons e dNil) appF ρ with | .ok (.nx ρ') => rest ρ' | r => r) = _
        rw [slot_upd h]
        have : dCons e dNil ρ = .error (.exc n p) := by
          show (e ρ >>= fun x => dNil ρ >>= fun xs => .ok (x :: xs)) = _
          rw [he]; rfl
        rw [this]; rfl
      rw [this]; exact K.exc n p
theorem sqExt {ee : α → PyData} {xs ys : List α} {r : List α → Rs β} (K : K1 P ρ) (h : ρ[i]? = some (.ol (xs.map ee))) (he : e ρ = .ok (.list (ys.map ee))) (hr : ∀ zs : List α, P (rest (ρ.set i (.ol (zs.map ee)))) (r zs)) : P (sSeq (sUpd i (dCons e dNil) extF) rest ρ) (extG xs ys >>= r) := by
  show P (match sUpd i (dCons e dNil) extF ρ with | .ok (.nx ρ') => rest ρ' | r => r) _
  rw [slot_upd h]
  have : dCons e dNil ρ = .ok [.list (ys.map ee)] := by
    show (e ρ >>= fun x => dNil ρ >>= fun xs => .ok (x :: xs)) = _
    rw [he]; rfl
  rw [this]
  unfold extG
  by_cases hl : xs.length + ys.length ≤ 1000000
  · rw [if_pos hl]
    have hs : (xs.map ee).length + (ys.map ee).length ≤ sizeLine := by rw [List.length_map, List.length_map, sizeLine_eq]; omega
    have : extF (xs.map ee) [.list (ys.map ee)] = .ok ((xs ++ ys).map ee) := by
      show (if _ then _ else _) = _
      rw [if_pos hs, List.map_append]
    show P (match (extF (xs.map ee) [.list (ys.map ee)] >>= fun ds' => (.ok (.nx (ρ.set i (.ol ds'))) : Rs Out)) with | .ok (.nx ρ') => rest ρ' | r => r) _
    rw [this]
    exact hr _
  · rw [if_neg hl]; exact K.stk _
theorem sqExtM {ee : α → PyData} {xs : List α} {m : Rs (List α)} {r : List α → Rs β} (K : K1 P ρ) (h : ρ[i]? = some (.ol (xs.map ee))) (he : Rl (eLst ee) (e ρ) m) (hr : ∀ zs : List α, P (rest (ρ.set i (.ol (zs.map ee)))) (r zs)) : P (sSeq (sUpd i (dCons e dNil) extF) rest ρ) (m >>= fun ys => extG xs ys >>= r) := by
  cases m with
  | ok y => exact sqExt K h he hr
  | error er =>
    cases er with
    | stuck => exact K.stk _
    | exc n p =>
      have he : e ρ = .error (.exc n p) := he
      have : sSeq (sUpd i (dCons e dNil) extF) rest ρ = .ok (.xc n p ρ) := by
        show (match sUpd i (dCons e dNil) extF ρ with | .ok (.nx ρ') => rest ρ' | r => r) = _
        rw [slot_upd h]
        have : dCons e dNil ρ = .error (.exc n p) := by
          show (e ρ >>= fun x => dNil ρ >>= fun xs => .ok (x :: xs)) = _
          rw [he]; rfl
        rw [this]; rfl
      rw [this]; exact K.exc n p
/-! a, b = .., .. -/
theorem sqPar2 {i j : Nat} {e1 e2 : DE} {x y : PyData} (h1 : e1 ρ = .ok x) (h2 : e2 ρ = .ok y) (h : P (rest ((ρ.set i (.dat x)).set j (.dat y))) r) : P (sSeq (sPar2 i j e1 e2) rest ρ) r := by
  have : sSeq (sPar2 i j e1 e2) rest ρ = rest ((ρ.set i (.dat x)).set j (.dat y)) := by
    show (match lift (e1 ρ >>= fun x => (e2 ρ >>= fun x => dNil ρ >>= fun xs => .ok (x :: xs)) >>= fun xs => .ok (x :: xs)) ρ _ with | .ok (.nx ρ') => rest ρ' | r => r) = _
    rw [h1]
    show (match lift ((e2 ρ >>= fun x => dNil ρ >>= fun xs => .ok (x :: xs)) >>= fun xs => .ok (x :: xs)) ρ _ with | .ok (.nx ρ') => rest ρ' | r => r) = _
    rw [h2]; rfl
  rw [this]; exact h
theorem par2A {i j : Nat} {e1 e2 : DE} {ea : α → PyData} {m : Rs α} {r : α → Rs β} (K : K1 P ρ) (h1 : Rl ea (e1 ρ) m) (h : ∀ x, P (sSeq (sPar2 i j (dLit (ea x)) e2) rest ρ) (r x)) : P (sSeq (sPar2 i j e1 e2) rest ρ) (m >>= r) := by
  cases m with
  | ok x =>
    have h1 : e1 ρ = .ok (ea x) := h1
    have : sSeq (sPar2 i j e1 e2) rest ρ = sSeq (sPar2 i j (dLit (ea x)) e2) rest ρ := by
      show (match lift (e1 ρ >>= fun x => (e2 ρ >>= fun x => dNil ρ >>= fun xs => .ok (x :: xs)) >>= fun xs => .ok (x :: xs)) ρ _ with | .ok (.nx ρ') => rest ρ' | r => r) = _
      rw [h1]; rfl
    rw [this]; exact h x
  | error er =>
    cases er with
    | stuck => exact K.stk _
    | exc n p =>
      have h1 : e1 ρ = .error (.exc n p) := h1
      have : sSeq (sPar2 i j e1 e2) rest ρ = .ok (.xc n p ρ) := by
        show (match lift (e1 ρ >>= fun x => (e2 ρ >>= fun x => dNil ρ >>= fun xs => .ok (x :: xs)) >>= fun xs => .ok (x :: xs)) ρ _ with | .ok (.nx ρ') => rest ρ' | r => r) = _
        rw [h1]; rfl
      rw [this]; exact K.exc n p
theorem par2B {i j : Nat} {e1 e2 : DE} {x : PyData} {ea : α → PyData} {m : Rs α} {r : α → Rs β} (K : K1 P ρ) (h1 : e1 ρ = .ok x) (h2 : Rl ea (e2 ρ) m) (h : ∀ y, P (rest ((ρ.set i (.dat x)).set j (.dat (ea y)))) (r y)) : P (sSeq (sPar2 i j e1 e2) rest ρ) (m >>= r) := by
  cases m with
  | ok y => exact sqPar2 h1 h2 (h y)
  | error er =>
    cases er with
    | stuck => exact K.stk _
    | exc n p =>
      have h2 : e2 ρ = .error (.exc n p) := h2
      have : sSeq (sPar2 i j e1 e2) rest ρ = .ok (.xc n p ρ) := by
        show (match lift (e1 ρ >>= fun x => (e2 ρ >>= fun x => dNil ρ >>= fun xs => .ok (x :: xs)) >>= fun xs => .ok (x :: xs)) ρ _ with | .ok (.nx ρ') => rest ρ' | r => r) = _
        rw [h1]
        show (match lift ((e2 ρ >>= fun x => dNil ρ >>= fun xs => .ok (x :: xs)) >>= fun xs => .ok (x :: xs)) ρ _ with | .ok (.nx ρ') => rest ρ' | r => r) = _
        rw [h2]; rfl
      rw [this]; exact K.exc n p
theorem sqPar3 {i j l : Nat} {e1 e2 e3 : DE} {x y z : PyData} (h1 : e1 ρ = .ok x) (h2 : e2 ρ = .ok y) (h3 : e3 ρ = .ok z) (h : P (rest (((ρ.set i (.dat x)).set j (.dat y)).set l (.dat z))) r) : P (sSeq (sPar3 i j l e1 e2 e3) rest ρ) r := by
  have : sSeq (sPar3 i j l e1 e2 e3) rest ρ = rest (((ρ.set i (.dat x)).set j (.dat y)).set l (.dat z)) := by
    have : dCons e1 (dCons e2 (dCons e3 dNil)) ρ = .ok [x, y, z] := by
      show (e1 ρ >>= fun x => (e2 ρ >>= fun x => (e3 ρ >>= fun x => dNil ρ >>= fun xs => .ok (x :: xs)) >>= fun xs => .ok (x :: xs)) >>= fun xs => .ok (x :: xs)) = _
      rw [h1, h2, h3]; rfl
    show (match lift (dCons e1 (dCons e2 (dCons e3 dNil)) ρ) ρ _ with | .ok (.nx ρ') => rest ρ' | r => r) = _
    rw [this]; rfl
  rw [this]; exact h
/-! tries -/
/-- what the clauses make of an error: the first that fits -/
def catchT (sub : String → String → Option Bool) : List (String × (String → Option (String × PyData) → Rs β)) → String → Option (String × PyData) → Rs β
  | [], n, p => .error (.exc n p)
  | h :: r, n, p => match sub n h.1 with
    | some true => noExc (h.2 n p)
    | some false => catchT sub r n p
    | none => stuck
def tryT (sub : String → String → Option Bool) (m : Rs β) (hs : List (String × (String → Option (String × PyData) → Rs β))) : Rs β := match m with
  | .ok x => .ok x
  | .error .stuck => stuck
  | .error (.exc n p) => catchT sub hs n p
/-- the clauses, one by one: each only returns -/
inductive HsT (e : γ → PyData) : List HdD → List (String × (String → Option (String × PyData) → Rs (Sg Unit γ))) → Prop
  | nil : HsT e [] []
  | cons {c : String} {sl : Option Nat} {su : String → Option (String × PyData) → DS} {f : String → Option (String × PyData) → Rs (Sg Unit γ)} {hs l} : (∀ n p ρ x, f n p = .ok x → ∃ y, x = .ret y ∧ su n p ρ = .ok (.rt (e y))) → HsT e hs l → HsT e (⟨c, sl, su⟩ :: hs) ((c, f) :: l)
def PC (e : γ → PyData) (o : Rs Out) : Rs (Sg Unit γ) → Prop
  | .ok (.ret y) => o = .ok (.rt (e y))
  | .ok _ => False
  | .error .stuck => True
  | .error (.exc n p) => ∃ ρ', o = .ok (.xc n p ρ')
theorem catch_rl {sub : String → String → Option Bool} {ee : γ → PyData} {hs l} (h : HsT ee hs l) {n : String} {p : Option (String × PyData)} : ∀ {ρ : EnvD}, (∀ hd ∈ hs, ∀ i, hd.slot = some i → i < ρ.length) → PC ee (catchD sub hs n p ρ) (catchT sub l n p) := by
  induction h with
  | nil => intro ρ _; exact ⟨ρ, rfl⟩
  | @cons c sl su f hs l hf hr ih =>
    intro ρ hsl
    unfold catchT catchD
    cases hs1 : sub n c with
    | none => exact True.intro
    | some k =>
      cases k with
      | false => exact @ih ρ fun hd m => hsl hd (List.mem_cons_of_mem _ m)
      | true =>
        show PC ee _ (noExc (f n p))
        cases hfn : f n p with
        | error er => exact True.intro
        | ok x =>
          cases sl with
          | none =>
            obtain ⟨y, rfl, hy⟩ := hf n p ρ x hfn
            show (su n p ρ >>= _) = _
            rw [hy]; rfl
          | some i =>
            obtain ⟨y, rfl, hy⟩ := hf n p (ρ.set i .un) x hfn
            have hi : i < ρ.length := hsl ⟨c, some i, su⟩ List.mem_cons_self i rfl
            show (if i < ρ.length then su n p (ρ.set i .un) >>= _ else stuck) = _
            rw [if_pos hi, hy]; rfl
/-- a try's body: nothing is stored -/
def PB (ρ : EnvD) (e : γ → PyData) (o : Rs Out) : Rs (Sg Unit γ) → Prop
  | .ok (.go _) => o = .ok (.nx ρ)
  | .ok (.brk _) => False
  | .ok (.ret b) => o = .ok (.rt (e b))
  | .error .stuck => True
  | .error (.exc n p) => o = .ok (.xc n p ρ)
theorem kB {e : γ → PyData} (ρ : EnvD) : K1 (PB ρ e) ρ := ⟨fun _ => trivial, fun _ _ => rfl⟩
theorem rB {e : γ → PyData} : KR (PB ρ e) e Sg.ret := fun _ => rfl
theorem endB {e : γ → PyData} : PB ρ e (sSkip ρ) (.ok (.go ())) := rfl
def afterT {γ β : Type} (r : Rs β) (ret : γ → β) : Sg Unit γ → Rs β
  | .ret b => .ok (ret b)
  | _ => r
theorem sqTry {sub : String → String → Option Bool} {body : DS} {hs : List HdD} {l} {ee : γ → PyData} {m : Rs (Sg Unit γ)} {r : Rs β} {ret : γ → β} (K : KN P) (R : KR P ee ret) (hb : PB ρ ee (body ρ) m) (hh : HsT ee hs l) (hsl : (hs.all fun hd => match hd.slot with | some i => decide (i < ρ.length) | none => true) = true) (hr : P (rest ρ) r) :
    P (sSeq (sTry sub body hs) rest ρ) (tryT sub m l >>= afterT r ret) := by
  show P (match sTry sub body hs ρ with | .ok (.nx ρ') => rest ρ' | r => r) _
  have e0 : sTry sub body hs ρ = (body ρ >>= fun o => match o with | .xc n p ρ' => catchD sub hs n p ρ' | o => .ok o) := rfl
  rw [e0]
  cases m with
  | ok g =>
    cases g with
    | go u =>
      have hb : body ρ = .ok (.nx ρ) := hb
      rw [hb]; exact hr
    | brk u => exact False.elim hb
    | ret y =>
      have hb : body ρ = .ok (.rt (ee y)) := hb
      rw [hb]; exact R y
  | error er =>
    cases er with
    | stuck => exact (K ρ).stk _
    | exc n p =>
      have hb : body ρ = .ok (.xc n p ρ) := hb
      rw [hb]
      have hc := catch_rl (sub := sub) hh (n := n) (p := p) (ρ := ρ) (fun hd m i hi => by
        have := List.all_eq_true.mp hsl hd m
        rw [hi] at this
        exact of_decide_eq_true this)
      show P (match catchD sub hs n p ρ with | .ok (.nx ρ') => rest ρ' | r => r) (catchT sub l n p >>= _)
      cases hct : catchT sub l n p with
      | ok x =>
        rw [hct] at hc
        cases x with
        | ret y =>
          have hc : catchD sub hs n p ρ = .ok (.rt (ee y)) := hc
          rw [hc]; exact R y
        | go u => exact False.elim hc
        | brk u => exact False.elim hc
      | error er =>
        rw [hct] at hc
        cases er with
        | stuck => exact (K ρ).stk _
        | exc n' p' =>
          have hc : ∃ ρ2, catchD sub hs n p ρ = .ok (.xc n' p' ρ2) := hc
          obtain ⟨ρ2, hc⟩ := hc
          rw [hc]; exact (K ρ2).exc n' p'
end
end Ty

set_option Elab.async false
set_option linter.all false
set_option maxRecDepth 100000
set_option maxHeartbeats 4000000
namespace Den
open PySem PySem.Spec PyProof.Rows L2
/-! ### what the words compute -/
section
variable {α β : Type} {ρ : EnvD}
@[simp] theorem ok_b (a : α) (k : α → Rs β) : ((.ok a : Rs α) >>= k) = k a := id rfl
@[simp] theorem err_b (e : Err) (k : α → Rs β) : ((.error e : Rs α) >>= k) = .error e := id rfl
@[simp] theorem ok_m (a : α) (f : α → β) : (Except.map f (.ok a : Rs α)) = .ok (f a) := id rfl
@[simp] theorem err_m (e : Err) (f : α → β) : (Except.map f (.error e : Rs α)) = .error e := id rfl
@[simp] theorem ev_lit (d : PyData) : dLit d ρ = .ok d := id rfl
def slV : Option B → Rs PyData
  | some (.dat d) => .ok d
  | _ => stuck
@[simp] theorem slV_dat (d : PyData) : slV (some (.dat d)) = .ok d := id rfl
def slB : Option B → Rs PyData
  | some (.dat d) => .ok d
  | some (.ol l) => .ok (.list l)
  | some (.fz l) => .ok (.list l)
  | some (.od kvs) => .ok (.dict kvs)
  | some (.fd kvs) => .ok (.dict kvs)
  | _ => stuck
@[simp] theorem slB_dat (d : PyData) : slB (some (.dat d)) = .ok d := id rfl
@[simp] theorem slB_ol (d : List PyData) : slB (some (.ol d)) = .ok (.list d) := id rfl
@[simp] theorem slB_fz (d : List PyData) : slB (some (.fz d)) = .ok (.list d) := id rfl
@[simp] theorem slB_od (d : List (PyData × PyData)) : slB (some (.od d)) = .ok (.dict d) := id rfl
@[simp] theorem slB_fd (d : List (PyData × PyData)) : slB (some (.fd d)) = .ok (.dict d) := id rfl
def slR : Option B → Rs Out
  | some (.ol ds) => .ok (.rt (.list ds))
  | some (.dat d) => .ok (.rt d)
  | _ => stuck
@[simp] theorem slR_dat (d : PyData) : slR (some (.dat d)) = .ok (.rt d) := id rfl
@[simp] theorem slR_ol (d : List PyData) : slR (some (.ol d)) = .ok (.rt (.list d)) := id rfl
def slU (k : List PyData → Rs Out) : Option B → Rs Out
  | some (.ol ds) => k ds
  | _ => stuck
@[simp] theorem slU_ol (k : List PyData → Rs Out) (d : List PyData) : slU k (some (.ol d)) = k d := id rfl
@[simp] theorem ev_var (i : Nat) : dVar i ρ = slV ρ[i]? := id rfl
@[simp] theorem ev_varB (i : Nat) : dVarB i ρ = slB ρ[i]? := id rfl
@[simp] theorem ev_op2 (f : PyData → PyData → Rs PyData) (a b : DE) : dOp2 f a b ρ = (a ρ >>= fun x => b ρ >>= fun y => f x y) := id rfl
@[simp] theorem ev_op1 (f : PyData → Rs PyData) (a : DE) : dOp1 f a ρ = (a ρ >>= f) := id rfl
@[simp] theorem ev_call (f : List PyData → Rs PyData) (a : DL) : dCall f a ρ = (a ρ >>= f) := id rfl
@[simp] theorem ev_callL (f : List PyData → Rs (List PyData)) (a : DL) : dCallL f a ρ = (a ρ >>= f) := id rfl
@[simp] theorem ev_nil : dNil ρ = .ok [] := id rfl
@[simp] theorem ev_cons (a : DE) (as : DL) : dCons a as ρ = (a ρ >>= fun x => as ρ >>= fun xs => .ok (x :: xs)) := id rfl
@[simp] theorem ev_tup (as : DL) : dTup as ρ = (as ρ >>= fun xs => if okLen xs.length then .ok (.tuple xs) else stuck) := id rfl
@[simp] theorem ev_list (as : DL) : dList as ρ = (as ρ >>= fun xs => if okLen xs.length then .ok xs else stuck) := id rfl
@[simp] theorem ev_lst (c : DL) : dLst c ρ = (c ρ).map .list := id rfl
@[simp] theorem ev_val (a : DE) : tVal a ρ = (a ρ >>= boolD) := id rfl
@[simp] theorem ev_and (a b : DT) : tAndD a b ρ = (a ρ >>= fun x => if x then b ρ else .ok false) := id rfl
@[simp] theorem ev_or (a b : DT) : tOrD a b ρ = (a ρ >>= fun x => if x then .ok true else b ρ) := id rfl
@[simp] theorem ev_not (a : DT) : tNotD a ρ = (a ρ >>= fun x => .ok (!x)) := id rfl
@[simp] theorem ev_if (t : DT) (a b : DE) : dIf t a b ρ = (t ρ >>= fun x => if x then a ρ else b ρ) := id rfl
@[simp] theorem ev_andV (a b : DE) : dAndV a b ρ = (a ρ >>= boolD >>= fun x => if x then b ρ else .ok (.bool false)) := id rfl
@[simp] theorem ev_orV (a b : DE) : dOrV a b ρ = (a ρ >>= boolD >>= fun x => if x then .ok (.bool true) else b ρ) := id rfl
@[simp] theorem ev_notV (a : DE) : dNotV a ρ = (a ρ >>= boolD >>= fun x => .ok (.bool (!x))) := id rfl
@[simp] theorem ev_chain (f g : PyData → PyData → Rs PyData) (a b c : DE) : dChain f g a b c ρ = (a ρ >>= fun x => b ρ >>= fun y => f x y >>= boolD >>= fun t => if t then c ρ >>= fun z => g y z else .ok (.bool false)) := id rfl
@[simp] theorem ev_isi (n : String) (a : DE) : dIsi n a ρ = (a ρ >>= isiD n) := id rfl
@[simp] theorem isi_non (n : String) : isiD n .none = .ok (.bool (isinstD n .none)) := id rfl
@[simp] theorem isi_bl (n : String) (b : Bool) : isiD n (.bool b) = .ok (.bool (isinstD n (.bool b))) := id rfl
@[simp] theorem isi_int (n : String) (i : Int) : isiD n (.int i) = .ok (.bool (isinstD n (.int i))) := id rfl
@[simp] theorem isi_str (n : String) (x : Str) : isiD n (.str x) = .ok (.bool (isinstD n (.str x))) := id rfl
@[simp] theorem isi_lst (n : String) (ds : List PyData) : isiD n (.list ds) = .ok (.bool (isinstD n (.list ds))) := id rfl
@[simp] theorem isi_tup (n : String) (ds : List PyData) : isiD n (.tuple ds) = .ok (.bool (isinstD n (.tuple ds))) := id rfl
@[simp] theorem ev_bool (b : Bool) : boolD (.bool b) = .ok b := id rfl
@[simp] theorem ev_oN : oNone ρ = .ok none := id rfl
@[simp] theorem ev_oS (a : DE) : oSome a ρ = (a ρ >>= fun d => match d with | .int i => .ok (some i) | _ => stuck) := id rfl
@[simp] theorem ev_sl (f : PyData → Option Int → Option Int → Rs PyData) (a : DE) (lo hi : DO) : dSl f a lo hi ρ = (a ρ >>= fun x => lo ρ >>= fun l => hi ρ >>= fun u => f x l u) := id rfl
@[simp] theorem ev_st (f : PyData → Int → Rs PyData) (a : DE) (s : DO) : dSt f a s ρ = (a ρ >>= fun x => s ρ >>= fun o => match o with | some k => f x k | none => stuck) := id rfl
@[simp] theorem ev_iD (a : DE) : iD a ρ = (a ρ >>= itemsD) := id rfl
@[simp] theorem ev_yes : tYesD ρ = .ok true := id rfl
/-! statements -/
@[simp] theorem ev_lift_ok (a : α) (k : α → Rs Out) : lift (.ok a) ρ k = k a := id rfl
@[simp] theorem ev_lift_exc (n : String) (p : Option (String × PyData)) (k : α → Rs Out) : lift (.error (.exc n p)) ρ k = .ok (.xc n p ρ) := id rfl
@[simp] theorem ev_skip : sSkip ρ = .ok (.nx ρ) := id rfl
theorem ev_seq_nx {a b : DS} {ρ' : EnvD} (h : a ρ = .ok (.nx ρ')) : sSeq a b ρ = b ρ' := by unfold sSeq; rw [h]
theorem ev_seq_rt {a b : DS} {d : PyData} (h : a ρ = .ok (.rt d)) : sSeq a b ρ = .ok (.rt d) := by unfold sSeq; rw [h]
theorem ev_seq_xc {a b : DS} {n : String} {p} {ρ' : EnvD} (h : a ρ = .ok (.xc n p ρ')) : sSeq a b ρ = .ok (.xc n p ρ') := by unfold sSeq; rw [h]
@[simp] theorem ev_seq (a b : DS) : sSeq a b ρ = (match a ρ with | .ok (.nx ρ') => b ρ' | r => r) := id rfl
@[simp] theorem ev_sIf (t : DT) (a b : DS) : sIf t a b ρ = lift (t ρ) ρ fun x => if x then a ρ else b ρ := id rfl
@[simp] theorem ev_set (i : Nat) (e : DE) : sSet i e ρ = lift (e ρ) ρ fun d => .ok (.nx (ρ.set i (.dat d))) := id rfl
@[simp] theorem ev_own (i : Nat) (e : DL) : sOwn i e ρ = lift (e ρ) ρ fun ds => .ok (.nx (ρ.set i (.ol ds))) := id rfl
@[simp] theorem ev_sTg (t : Tg) (e : DE) : sTg t e ρ = lift (e ρ) ρ fun d => t.d ρ d >>= fun ρ' => .ok (.nx ρ') := id rfl
@[simp] theorem ev_drop (e : DE) : sDrop e ρ = lift (e ρ) ρ fun _ => .ok (.nx ρ) := id rfl
@[simp] theorem ev_ret (e : DE) : sRet e ρ = lift (e ρ) ρ fun d => .ok (.rt d) := id rfl
@[simp] theorem ev_retN : sRetN ρ = .ok (.rt .none) := id rfl
@[simp] theorem ev_raise (n : String) : sRaise n ρ = .ok (.xc n none ρ) := id rfl
@[simp] theorem ev_for (it : DL) (t : Tg) (b : DS) : sFor it t b ρ = lift (it ρ) ρ fun ds => forD t b ds ρ := id rfl
@[simp] theorem ev_stuck : sStuck ρ = stuck := id rfl
@[simp] theorem ev_brk : sBreak ρ = .ok (.bk ρ) := id rfl
@[simp] theorem ev_cnt : sCont ρ = .ok (.ct ρ) := id rfl
@[simp] theorem ev_nm (i : Nat) (d : PyData) : (Tg.nm i).d ρ d = .ok (ρ.set i (.dat d)) := by rw [Tg.d]
@[simp] theorem ev_tp (ts : List Tg) (ds : List PyData) : (Tg.tp ts).d ρ (.tuple ds) = Tg.dsx ts ρ ds := by rw [Tg.d]
@[simp] theorem ev_t0 : Tg.dsx [] ρ [] = .ok ρ := by rw [Tg.dsx]
@[simp] theorem ev_t1 (t : Tg) (ts : List Tg) (d : PyData) (ds : List PyData) : Tg.dsx (t :: ts) ρ (d :: ds) = (t.d ρ d >>= fun ρ' => Tg.dsx ts ρ' ds) := by rw [Tg.dsx]
@[simp] theorem ev_upd (i : Nat) (cs : DL) (f : List PyData → List PyData → Rs (List PyData)) : sUpd i cs f ρ = slU (fun ds => lift (cs ρ) ρ fun as => f ds as >>= fun ds' => .ok (.nx (ρ.set i (.ol ds')))) ρ[i]? := id rfl
@[simp] theorem ev_retOwn (i : Nat) : sRetOwn i ρ = slR ρ[i]? := id rfl
@[simp] theorem ev_par2 (i j : Nat) (a b : DE) : sPar2 i j a b ρ = lift (a ρ >>= fun x => b ρ >>= fun y => .ok (x, y)) ρ fun p => .ok (.nx ((ρ.set i (.dat p.1)).set j (.dat p.2))) := by
  unfold sPar2
  simp only [ev_cons, ev_nil]
  cases a ρ with
  | error e => cases e <;> rfl
  | ok x => cases b ρ with
    | error e => cases e <;> rfl
    | ok y => rfl
/-! outputs -/
@[simp] theorem out_rt (d : PyData) : outD (.ok (.rt d)) = .ok d := id rfl
@[simp] theorem out_nx (ρ : EnvD) : outD (.ok (.nx ρ)) = .ok .none := id rfl
@[simp] theorem out_xc (n : String) (p : Option (String × PyData)) (ρ : EnvD) : outD (.ok (.xc n p ρ)) = .error (.exc n p) := id rfl
/-! operators -/
@[simp] theorem add_i (i j : Int) : addD (.int i) (.int j) = .ok (.int (i + j)) := id rfl
@[simp] theorem sub_i (i j : Int) : subD (.int i) (.int j) = .ok (.int (i - j)) := id rfl
@[simp] theorem neg_i (i : Int) : negD (.int i) = .ok (.int (-i)) := id rfl
@[simp] theorem lt_i (i j : Int) : ltD (.int i) (.int j) = .ok (.bool (decide (i < j))) := id rfl
@[simp] theorem le_i (i j : Int) : leD (.int i) (.int j) = .ok (.bool (decide (i ≤ j))) := id rfl
@[simp] theorem gt_i (i j : Int) : gtD (.int i) (.int j) = .ok (.bool (decide (j < i))) := id rfl
@[simp] theorem ge_i (i j : Int) : geD (.int i) (.int j) = .ok (.bool (decide (j ≤ i))) := id rfl
@[simp] theorem abs_i (i : Int) : absD [.int i] = .ok (.int (if i < 0 then -i else i)) := id rfl
@[simp] theorem int_i (i : Int) : intD [.int i] = .ok (.int i) := id rfl
@[simp] theorem len_l (xs : List PyData) : lenD [.list xs] = .ok (.int xs.length) := id rfl
@[simp] theorem len_t (xs : List PyData) : lenD [.tuple xs] = .ok (.int xs.length) := id rfl
@[simp] theorem tup_l (xs : List PyData) : tupleD [.list xs] = .ok (.tuple xs) := id rfl
@[simp] theorem tup_t (xs : List PyData) : tupleD [.tuple xs] = .ok (.tuple xs) := id rfl
@[simp] theorem lst_l (xs : List PyData) : listD [.list xs] = .ok xs := id rfl
@[simp] theorem lst_t (xs : List PyData) : listD [.tuple xs] = .ok xs := id rfl
@[simp] theorem it_l (xs : List PyData) : itemsD (.list xs) = .ok xs := id rfl
@[simp] theorem it_t (xs : List PyData) : itemsD (.tuple xs) = .ok xs := id rfl
@[simp] theorem sl_l (xs : List PyData) (lo hi) : slD (.list xs) lo hi = .ok (.list (cutD xs lo hi)) := id rfl
@[simp] theorem sl_t (xs : List PyData) (lo hi) : slD (.tuple xs) lo hi = .ok (.tuple (cutD xs lo hi)) := id rfl
@[simp] theorem min_ii (i j : Int) : minD [.int i, .int j] = .ok (.int (min2 i j)) := id rfl
@[simp] theorem max_ii (i j : Int) : maxD [.int i, .int j] = .ok (.int (max2 i j)) := id rfl
@[simp] theorem is_n (d : PyData) : isD d .none = .ok (.bool (noneD d)) := id rfl
@[simp] theorem isn_n (d : PyData) : isNotD d .none = .ok (.bool (!noneD d)) := id rfl
theorem eq_ok {d e : PyData} (h1 : SeqAt.shaped d = true) (h2 : SeqAt.shaped e = true) : eqD d e = .ok (.bool (PyData.eqv d e)) := by unfold eqD; rw [h1, h2]; rfl
theorem ne_ok {d e : PyData} (h1 : SeqAt.shaped d = true) (h2 : SeqAt.shaped e = true) : neD d e = .ok (.bool (!PyData.eqv d e)) := by unfold neD; rw [h1, h2]; rfl
@[simp] theorem sh_i (i : Int) : SeqAt.shaped (.int i) = true := by simp [SeqAt.shaped, PyData.canLay0, PyData.depth]
@[simp] theorem eq_i (i j : Int) : eqD (.int i) (.int j) = .ok (.bool (decide (i = j))) := by
  rw [eq_ok (sh_i i) (sh_i j)]
  simp [PyData.eqv]
  exact (Bool.beq_eq_decide_eq i j)
@[simp] theorem ne_i (i j : Int) : neD (.int i) (.int j) = .ok (.bool (!decide (i = j))) := by
  rw [ne_ok (sh_i i) (sh_i j)]
  simp [PyData.eqv]
  exact (Bool.beq_eq_decide_eq i j)
theorem mul_i {i j : Int} (h : i.natAbs.log2 + j.natAbs.log2 < 1000000) : mulD (.int i) (.int j) = .ok (.int (i * j)) := by
  show (if _ then _ else _) = _
  rw [if_pos h]
theorem fdiv_i {i j : Int} (h : j ≠ 0 ∧ j.natAbs < 1073741824) : fdivD (.int i) (.int j) = .ok (.int (i.fdiv j)) := by
  show (if _ then _ else _) = _
  rw [if_pos h]
theorem mod_i {i j : Int} (h : j ≠ 0) : modD (.int i) (.int j) = .ok (.int (i.fmod j)) := by
  show (if _ then _ else _) = _
  rw [if_pos h]
end
/-! ### typed rows -/
abbrev eI (ns : List Int) : List PyData := ns.map .int
abbrev tI (ns : List Int) : PyData := .tuple (ns.map .int)
abbrev lI (ns : List Int) : PyData := .list (ns.map .int)
theorem intsOf_map : ∀ ns : List Int, intsOf (eI ns) = some ns
  | [] => rfl
  | n :: ns => by
    show (intsOf (eI ns)).map (n :: ·) = _
    rw [intsOf_map ns]
    rfl
theorem boolsOf_map {α : Type} (p : α → Bool) : ∀ xs : List α, boolsOf (xs.map fun x => .bool (p x)) = some (xs.map p)
  | [] => rfl
  | x :: xs => by
    show (boolsOf (xs.map fun x => .bool (p x))).map (p x :: ·) = _
    rw [boolsOf_map p xs]
    rfl
@[simp] theorem sum_map (ns : List Int) : sumD [.list (ns.map .int)] = .ok (.int ns.sum) := by
  show (match intsOf (eI ns) with | some ns => _ | none => _) = _
  rw [intsOf_map]
theorem all_map {α : Type} (p : α → Bool) (xs : List α) : allD [.list (xs.map fun x => .bool (p x))] = .ok (.bool (xs.all p)) := by
  show (match boolsOf _ with | some ns => _ | none => _) = _
  rw [boolsOf_map]
  simp [List.all_map, Function.comp_def]
theorem any_map {α : Type} (p : α → Bool) (xs : List α) : anyD [.list (xs.map fun x => .bool (p x))] = .ok (.bool (xs.any p)) := by
  show (match boolsOf _ with | some ns => _ | none => _) = _
  rw [boolsOf_map]
  simp [List.any_map, Function.comp_def]
theorem okLen_of {n : Nat} (h : n ≤ 1000000) : okLen n = true := decide_eq_true (by rw [sizeLine_eq]; omega)
@[simp] theorem ok0 : okLen 0 = true := okLen_of (by omega)
@[simp] theorem ok1 : okLen 1 = true := okLen_of (by omega)
@[simp] theorem ok2 : okLen 2 = true := okLen_of (by omega)
@[simp] theorem ok3 : okLen 3 = true := okLen_of (by omega)
@[simp] theorem ok4 : okLen 4 = true := okLen_of (by omega)
@[simp] theorem ok5 : okLen 5 = true := okLen_of (by omega)
theorem okLen_small : True := trivial
/-! ### comprehensions -/
def bodyC (t : Tg) (tt : DT) (e : DE) (ρ : EnvD) (d : PyData) : Rs (Option PyData) := t.d ρ d >>= fun ρ1 => tt ρ1 >>= fun b => if b then e ρ1 >>= fun y => .ok (some y) else .ok none
theorem compL_eq {α : Type} {t : Tg} {tt : DT} {e : DE} {ρ : EnvD} (enc : α → PyData) (f : α → Option PyData) : ∀ xs : List α, (∀ x ∈ xs, bodyC t tt e ρ (enc x) = .ok (f x)) → compL t tt e ρ (xs.map enc) = .ok (xs.filterMap f)
  | [], _ => rfl
  | x :: xs, h => by
    have hx := h x List.mem_cons_self
    have ih := compL_eq enc f xs fun y hy => h y (List.mem_cons_of_mem _ hy)
    rw [List.map_cons, compL]
    unfold bodyC at hx
    obtain ⟨ρ1, h1, hx⟩ := ok_bind hx
    obtain ⟨b, h2, hx⟩ := ok_bind hx
    rw [h1, ok_b, h2, ok_b]
    cases b with
    | true =>
      obtain ⟨y, h3, hx⟩ := ok_bind (show (e ρ1 >>= fun y => .ok (some y)) = .ok (f x) from hx)
      have e4 : f x = some y := by
        have : (.ok (some y) : Rs (Option PyData)) = .ok (f x) := hx
        injection this.symm
      simp only [if_true, h3, ok_b, ih]
      rw [List.filterMap_cons, e4]
    | false =>
      have e4 : f x = none := by
        have : (.ok none : Rs (Option PyData)) = .ok (f x) := hx
        injection this.symm
      simp only [Bool.false_eq_true, if_false, ih]
      rw [List.filterMap_cons, e4]
theorem dComp_eq {α : Type} {it : DL} {vs : List Nat} {t : Tg} {tt : DT} {e : DE} {ρ : EnvD} {xs : List α} (enc : α → PyData) (f : α → Option PyData) (hi : it ρ = .ok (xs.map enc)) (hw : t.within vs = true) (hl : xs.length ≤ 1000000)
    (h : ∀ x ∈ xs, bodyC t tt e (wipeD ρ vs) (enc x) = .ok (f x)) : dComp it vs t tt e ρ = .ok (xs.filterMap f) := by
  unfold dComp
  rw [hi, ok_b, if_pos hw, compL_eq enc f xs h]
  show (if okLen (xs.filterMap f).length = true then _ else _) = _
  rw [if_pos (okLen_of (Nat.le_trans (List.length_filterMap_le _ _) hl))]
theorem dComp_map {α : Type} {it : DL} {vs : List Nat} {t : Tg} {tt : DT} {e : DE} {ρ : EnvD} {xs : List α} (enc : α → PyData) (g : α → PyData) (hi : it ρ = .ok (xs.map enc)) (hw : t.within vs = true) (hl : xs.length ≤ 1000000)
    (h : ∀ x ∈ xs, bodyC t tt e (wipeD ρ vs) (enc x) = .ok (some (g x))) : dComp it vs t tt e ρ = .ok (xs.map g) := by
  rw [dComp_eq enc (fun x => some (g x)) hi hw hl h]
  congr 1
  induction xs with
  | nil => rfl
  | cons x xs ih => simp
/-! ### loops -/
theorem forD_rel {α σ : Type} {t : Tg} {b : DS} (enc : α → PyData) (R : σ → EnvD → Prop) (step : σ → α → σ) : ∀ (xs : List α) (s : σ) (ρ : EnvD), (∀ s x ρ, x ∈ xs → R s ρ → ∃ ρ', ((t.d ρ (enc x) >>= fun ρ1 => b ρ1) = .ok (.nx ρ') ∨ (t.d ρ (enc x) >>= fun ρ1 => b ρ1) = .ok (.ct ρ')) ∧ R (step s x) ρ') → R s ρ →
    ∃ ρ', forD t b (xs.map enc) ρ = .ok (.nx ρ') ∧ R (xs.foldl step s) ρ'
  | [], s, ρ, _, r => ⟨ρ, rfl, r⟩
  | x :: xs, s, ρ, h, r => by
    obtain ⟨ρ1, hb, r1⟩ := h s x ρ List.mem_cons_self r
    obtain ⟨ρ2, h2, r2⟩ := forD_rel enc R step xs (step s x) ρ1 (fun s y ρ hy => h s y ρ (List.mem_cons_of_mem _ hy)) r1
    refine ⟨ρ2, ?_, r2⟩
    rw [List.map_cons, forD]
    rcases hb with hb | hb
    · obtain ⟨ρ0, h0, hb⟩ := ok_bind hb
      rw [h0, ok_b, hb, ok_b]
      exact h2
    · obtain ⟨ρ0, h0, hb⟩ := ok_bind hb
      rw [h0, ok_b, hb, ok_b]
      exact h2
theorem forD_ix0 {α : Type} {t : Tg} {b : DS} (enc : α → PyData) (R : Nat → EnvD → Prop) (ys : List α) : ∀ (xs : List α) (i : Nat) (ρ : EnvD), ys.drop i = xs → (∀ i x ρ, ys[i]? = some x → i < ys.length → R i ρ → ∃ ρ', ((t.d ρ (enc x) >>= fun ρ1 => b ρ1) = .ok (.nx ρ') ∨ (t.d ρ (enc x) >>= fun ρ1 => b ρ1) = .ok (.ct ρ')) ∧ R (i + 1) ρ') → R i ρ →
    ∃ ρ', forD t b (xs.map enc) ρ = .ok (.nx ρ') ∧ R (i + xs.length) ρ'
  | [], i, ρ, _, _, r => ⟨ρ, rfl, r⟩
  | x :: xs, i, ρ, e, h, r => by
    have hx : ys[i]? = some x := by
      have := congrArg (·[0]?) e
      simpa using this
    have hi : i < ys.length := (List.getElem?_eq_some_iff.mp hx).1
    obtain ⟨ρ1, hb, r1⟩ := h i x ρ hx hi r
    obtain ⟨ρ2, h2, r2⟩ := forD_ix0 enc R ys xs (i + 1) ρ1 (by rw [← List.drop_drop, e]; rfl) h r1
    refine ⟨ρ2, ?_, by rw [List.length_cons, show i + (xs.length + 1) = i + 1 + xs.length by omega]; exact r2⟩
    rw [List.map_cons, forD]
    rcases hb with hb | hb
    · obtain ⟨ρ0, h0, hb⟩ := ok_bind hb
      rw [h0, ok_b, hb, ok_b]
      exact h2
    · obtain ⟨ρ0, h0, hb⟩ := ok_bind hb
      rw [h0, ok_b, hb, ok_b]
      exact h2
/-- a loop by its invariant -/
theorem forD_ix {α : Type} {t : Tg} {b : DS} (enc : α → PyData) (R : Nat → EnvD → Prop) (xs : List α) {ρ : EnvD} (h : ∀ i x ρ, xs[i]? = some x → i < xs.length → R i ρ → ∃ ρ', ((t.d ρ (enc x) >>= fun ρ1 => b ρ1) = .ok (.nx ρ') ∨ (t.d ρ (enc x) >>= fun ρ1 => b ρ1) = .ok (.ct ρ')) ∧ R (i + 1) ρ') (r : R 0 ρ) :
    ∃ ρ', forD t b (xs.map enc) ρ = .ok (.nx ρ') ∧ R xs.length ρ' := by
  obtain ⟨ρ', h1, h2⟩ := forD_ix0 enc R xs xs 0 ρ rfl h r
  rw [Nat.zero_add] at h2
  exact ⟨ρ', h1, h2⟩
end Den

set_option Elab.async false
set_option linter.all false
set_option maxRecDepth 100000
set_option maxHeartbeats 4000000
namespace Den
open PySem PySem.Spec PyProof.Rows L2
/-! ### slices of typed rows -/
theorem cut_none {α : Type} (xs : List α) : cutD xs none none = xs := by
  unfold cutD
  simp [HT.sIx]
theorem cut_to {α : Type} (xs : List α) {k : Int} (h : 0 ≤ k) : cutD xs none (some k) = xs.take k.toNat := by
  unfold cutD
  simp only [HT.sIx, List.drop_zero, Nat.sub_zero]
  rw [if_neg (by omega)]
  by_cases hk : k.toNat ≤ xs.length
  · rw [Nat.min_eq_left hk]
  · rw [Nat.min_eq_right (by omega), List.take_of_length_le (Nat.le_refl _), List.take_of_length_le (by omega)]
theorem cut_from {α : Type} (xs : List α) {k : Int} (h : 0 ≤ k) : cutD xs (some k) none = xs.drop k.toNat := by
  unfold cutD
  simp only [HT.sIx]
  rw [if_neg (by omega)]
  by_cases hk : k.toNat ≤ xs.length
  · rw [Nat.min_eq_left hk, List.take_of_length_le (by simp)]
  · rw [Nat.min_eq_right (by omega), List.drop_of_length_le (Nat.le_refl _), List.drop_of_length_le (by omega), List.take_nil]
theorem atI_nat' {α : Type} {xs : List α} {k : Int} {x : α} (h0 : 0 ≤ k) (h : xs[k.toNat]? = some x) : atI xs k = some x := by
  obtain ⟨j, rfl⟩ := Int.eq_ofNat_of_zero_le h0
  exact atI_nat h
theorem log2_lt {i : Int} {n : Nat} (h0 : 0 ≤ i) (h : i < 2 ^ n) (hn : 0 < n) : i.natAbs.log2 < n := by
  rcases Nat.eq_zero_or_pos i.natAbs with e | e
  · rw [e]; simpa using hn
  · rw [Nat.log2_lt (by omega)]
    have : (i.natAbs : Int) = i := Int.natAbs_of_nonneg h0
    have h2 : (i.natAbs : Int) < 2 ^ n := by rw [this]; exact h
    exact_mod_cast h2
theorem mul_small {i j : Int} (hi : 0 ≤ i) (hi2 : i < 2 ^ 200) (hj : 0 ≤ j) (hj2 : j < 2 ^ 200) : mulD (.int i) (.int j) = .ok (.int (i * j)) := by
  refine mul_i ?_
  have a := log2_lt hi hi2 (by decide)
  have b := log2_lt hj hj2 (by decide)
  omega
theorem range1_ok {n : Int} (h0 : 0 ≤ n) (h : n < 2 ^ 62) : range1D [.int n] = .ok ((List.range n.toNat).map fun (i : Nat) => .int i) := by
  show (if okR n then .ok (rngL 0 n) else stuck) = _
  rw [if_pos (show okR n = true from decide_eq_true ⟨by omega, h⟩)]
  unfold rngL
  simp
/-! ### _law_draws -/
def bdDraws : DS :=
  (sSeq (sOwn 2 (dList dNil))
    (sSeq (sSet 3 (dLit (.int 7)))
    (sSeq (sFor (iD (dSl slD (dVarB 0) oNone (oSome (dLit (.int 63))))) (.nm 4) (sSeq (sSet 5 (dCall absD (dCons (dVar 4) dNil)))
    (sSeq (sSet 3 (dOp2 modD (dCall intD (dCons (dOp2 addD (dOp2 addD (dOp2 mulD (dVar 3) (dLit (.int 48271))) (dVar 5)) (dLit (.int 11))) dNil)) (dLit (.int 2147483647))))
    (sIf (tVal (dOp2 geD (dVar 5) (dOp2 powD (dLit (.int 10)) (dLit (.int 18))))) (sFor (dCallL range1D (dCons (dLit (.int 60)) dNil)) (.nm 6) (sIf (tVal (dOp2 gtD (dVar 5) (dLit (.int 0)))) (sSeq (sUpd 2 (dCons (dOp2 modD (dCall intD (dCons (dVar 5) dNil)) (dLit (.int 1009))) dNil) appF)
    (sSet 5 (dOp2 fdivD (dVar 5) (dLit (.int 1009))))) sSkip)) (sUpd 2 (dCons (dOp2 modD (dOp2 fdivD (dCall intD (dCons (dOp2 addD (dOp2 mulD (dVar 3) (dLit (.int 16807))) (dLit (.int 5))) dNil)) (dLit (.int 3))) (dLit (.int 65521))) dNil) appF)))))
    (sSeq (sFor (dCallL range1D (dCons (dVar 1) dNil)) (.nm 6) (sIf (tVal (dOp2 ltD (dCall lenD (dCons (dVarB 2) dNil)) (dVar 1))) (sSeq (sSet 3 (dOp2 modD (dCall intD (dCons (dOp2 addD (dOp2 addD (dOp2 mulD (dVar 3) (dLit (.int 69621))) (dVar 6)) (dLit (.int 1))) dNil)) (dLit (.int 2147483647))))
    (sUpd 2 (dCons (dOp2 modD (dOp2 fdivD (dCall intD (dCons (dVar 3) dNil)) (dLit (.int 7))) (dLit (.int 65521))) dNil) appF)) sSkip))
    (sRet (dSl slD (dVarB 2) oNone (oSome (dVar 1))))))))
def DrawOk (ds : List Int) : Prop := ∀ d ∈ ds, 0 ≤ d ∧ d < 65521
theorem DrawOk.snoc {ds : List Int} {d : Int} (h : DrawOk ds) (h0 : 0 ≤ d) (h1 : d < 65521) : DrawOk (ds ++ [d]) := fun x hx => by
  rcases List.mem_append.mp hx with hx | hx
  · exact h x hx
  · rw [List.mem_singleton.mp hx]; exact ⟨h0, h1⟩
theorem app_ok {ds : List Int} {d : Int} (h : ds.length < 100000) : appF (eI ds) [.int d] = .ok (eI (ds ++ [d])) := by
  show (if _ then _ else _) = _
  rw [if_pos (by rw [List.length_map, sizeLine_eq]; omega)]
  simp
theorem fmod_rng {a m : Int} (h : 0 < m) : 0 ≤ a.fmod m ∧ a.fmod m < m := ⟨Int.fmod_nonneg_of_pos _ h, Int.fmod_lt_of_pos _ h⟩
theorem pow18 : powD (.int 10) (.int 18) = .ok (.int 1000000000000000000) := by
  show (if (0 : Int) ≤ 18 ∧ (18 : Int) ≤ 1000000 ∧ (10 : Int).natAbs < 2 ^ 64 then Except.ok (PyData.int ((10 : Int) ^ (18 : Int).toNat)) else stuck) = _
  rw [if_pos (by decide)]
  rfl
theorem foldl_count {α : Type} : ∀ (xs : List α) (n : Nat), xs.foldl (fun s _ => s + 1) n = n + xs.length
  | [], _ => rfl
  | x :: xs, n => by rw [List.foldl_cons, foldl_count xs]; simp; omega
def drInner : DS := (sIf (tVal (dOp2 gtD (dVar 5) (dLit (.int 0)))) (sSeq (sUpd 2 (dCons (dOp2 modD (dCall intD (dCons (dVar 5) dNil)) (dLit (.int 1009))) dNil) appF)
    (sSet 5 (dOp2 fdivD (dVar 5) (dLit (.int 1009))))) sSkip)
def drCell : DS := (sSeq (sSet 5 (dCall absD (dCons (dVar 4) dNil)))
    (sSeq (sSet 3 (dOp2 modD (dCall intD (dCons (dOp2 addD (dOp2 addD (dOp2 mulD (dVar 3) (dLit (.int 48271))) (dVar 5)) (dLit (.int 11))) dNil)) (dLit (.int 2147483647))))
    (sIf (tVal (dOp2 geD (dVar 5) (dOp2 powD (dLit (.int 10)) (dLit (.int 18))))) (sFor (dCallL range1D (dCons (dLit (.int 60)) dNil)) (.nm 6) drInner) (sUpd 2 (dCons (dOp2 modD (dOp2 fdivD (dCall intD (dCons (dOp2 addD (dOp2 mulD (dVar 3) (dLit (.int 16807))) (dLit (.int 5))) dNil)) (dLit (.int 3))) (dLit (.int 65521))) dNil) appF))))
def drMore : DS := (sIf (tVal (dOp2 ltD (dCall lenD (dCons (dVarB 2) dNil)) (dVar 1))) (sSeq (sSet 3 (dOp2 modD (dCall intD (dCons (dOp2 addD (dOp2 addD (dOp2 mulD (dVar 3) (dLit (.int 69621))) (dVar 6)) (dLit (.int 1))) dNil)) (dLit (.int 2147483647))))
    (sUpd 2 (dCons (dOp2 modD (dOp2 fdivD (dCall intD (dCons (dVar 3) dNil)) (dLit (.int 7))) (dLit (.int 65521))) dNil) appF)) sSkip)
theorem drInner_ok {a b c d e : B} {ds : List Int} {n i : Int} (hd : DrawOk ds) (hl : ds.length < 100000) (h0 : 0 ≤ n) : ∃ ds' n', ((Tg.nm 6).d [a, b, .ol (eI ds), c, d, .dat (.int n), e] (.int i) >>= fun ρ1 => drInner ρ1) = .ok (.nx [a, b, .ol (eI ds'), c, d, .dat (.int n'), .dat (.int i)]) ∧ DrawOk ds' ∧ ds'.length ≤ ds.length + 1 ∧ 0 ≤ n' := by
  by_cases h : 0 < n
  · refine ⟨ds ++ [n.fmod 1009], n.fdiv 1009, ?_, hd.snoc (fmod_rng (by decide)).1 (by have := (fmod_rng (a := n) (m := 1009) (by decide)).2; omega), by simp, ?_⟩
    · simp [drInner, h, mod_i, fdiv_i, app_ok hl]
    · exact Int.fdiv_nonneg h0 (by decide)
  · exact ⟨ds, n, by simp [drInner, h], hd, by omega, h0⟩
theorem drCell_ok {a b c d e : B} {ds : List Int} {seed n : Int} (hd : DrawOk ds) (hl : ds.length < 99000) (h0 : 0 ≤ seed) (h1 : seed < 2147483647) : ∃ ds' seed' x4 x5 x6, ((Tg.nm 4).d [a, b, .ol (eI ds), .dat (.int seed), c, d, e] (.int n) >>= fun ρ1 => drCell ρ1) = .ok (.nx [a, b, .ol (eI ds'), .dat (.int seed'), x4, x5, x6]) ∧ DrawOk ds' ∧ ds'.length ≤ ds.length + 60 ∧ 0 ≤ seed' ∧ seed' < 2147483647 := by
  have habs : (0 : Int) ≤ if n < 0 then -n else n := by split <;> omega
  generalize hm : (if n < 0 then -n else n) = m at habs
  have hmul : mulD (.int seed) (.int 48271) = .ok (.int (seed * 48271)) := mul_small h0 (by omega) (by decide) (by decide)
  obtain ⟨s0, s1⟩ := fmod_rng (a := seed * 48271 + m + 11) (m := 2147483647) (by decide)
  generalize hs : (seed * 48271 + m + 11).fmod 2147483647 = s at s0 s1
  have hmul2 : mulD (.int s) (.int 16807) = .ok (.int (s * 16807)) := mul_small s0 (by omega) (by decide) (by decide)
  have hr : range1D [.int 60] = .ok ((List.range 60).map fun (i : Nat) => .int i) := range1_ok (n := 60) (by decide) (by decide)
  by_cases h : 1000000000000000000 ≤ m
  · obtain ⟨ρ', hf, ds', n', e', hρ, hd', hl', hn'⟩ := forD_ix (t := .nm 6) (b := drInner) (fun (i : Nat) => PyData.int i) (fun k ρ => ∃ ds' n' e', ρ = [a, b, .ol (eI ds'), .dat (.int s), .dat (.int n), .dat (.int n'), e'] ∧ DrawOk ds' ∧ ds'.length ≤ ds.length + k ∧ 0 ≤ n') (List.range 60)
      (ρ := [a, b, .ol (eI ds), .dat (.int s), .dat (.int n), .dat (.int m), e]) (by
        rintro k i ρ hk hlt ⟨ds', n', e', rfl, hd', hl', hn'⟩
        rw [List.length_range] at hlt
        obtain ⟨ds2, n2, q, hd2, hl2, hn2⟩ := drInner_ok (a := a) (b := b) (c := .dat (.int s)) (d := .dat (.int n)) (e := e') (n := n') (i := i) hd' (by omega) hn'
        exact ⟨_, .inl q, ds2, n2, _, rfl, hd2, by omega, hn2⟩) ⟨ds, m, e, rfl, hd, by omega, habs⟩
    subst hρ
    rw [List.length_range] at hl'
    refine ⟨ds', s, .dat (.int n), .dat (.int n'), e', ?_, hd', hl', s0, s1⟩
    simp [drCell, hm, hmul, mod_i, hs, pow18, h, hr, hf]
  · refine ⟨ds ++ [((s * 16807 + 5).fdiv 3).fmod 65521], s, .dat (.int n), .dat (.int m), e, ?_, hd.snoc (fmod_rng (by decide)).1 (fmod_rng (by decide)).2, by simp, s0, s1⟩
    simp [drCell, hm, hmul, hmul2, mod_i, hs, pow18, h, hr, fdiv_i, app_ok (show ds.length < 100000 by omega)]
theorem drMore_ok {a c d e : B} {ds : List Int} {many : Nat} {seed : Int} {i : Nat} (hm : many ≤ 1000) (hi : i ≤ 1000) (hd : DrawOk ds) (hl : ds.length < 99000) (h0 : 0 ≤ seed) (h1 : seed < 2147483647) : ∃ ds' seed', ((Tg.nm 6).d [a, .dat (.int many), .ol (eI ds), .dat (.int seed), c, d, e] (.int i) >>= fun ρ1 => drMore ρ1) = .ok (.nx [a, .dat (.int many), .ol (eI ds'), .dat (.int seed'), c, d, .dat (.int i)]) ∧ DrawOk ds' ∧ ds'.length ≤ ds.length + 1 ∧ (many ≤ ds.length → ds'.length = ds.length) ∧ (ds.length < many → ds'.length = ds.length + 1) ∧ 0 ≤ seed' ∧ seed' < 2147483647 := by
  have hmul : mulD (.int seed) (.int 69621) = .ok (.int (seed * 69621)) := mul_small h0 (by omega) (by decide) (by decide)
  obtain ⟨s0, s1⟩ := fmod_rng (a := seed * 69621 + i + 1) (m := 2147483647) (by decide)
  generalize hs : (seed * 69621 + i + 1).fmod 2147483647 = s at s0 s1
  by_cases h : ds.length < many
  · refine ⟨ds ++ [(s.fdiv 7).fmod 65521], s, ?_, hd.snoc (fmod_rng (by decide)).1 (fmod_rng (by decide)).2, by simp, by omega, by simp, s0, s1⟩
    simp [drMore, h, hmul, mod_i, hs, fdiv_i, app_ok (show ds.length < 100000 by omega)]
  · refine ⟨ds, seed, ?_, hd, by omega, by omega, by omega, h0, h1⟩
    simp [drMore, h]
theorem draws_ok (ns : List Int) (many : Nat) (hl : ns.length ≤ 63) (hm : many ≤ 1000) : ∃ ds : List Int, fnD [true, false] 7 bdDraws [lI ns, .int many] = .ok (lI ds) ∧ ds.length = many ∧ DrawOk ds := by
  obtain ⟨ρ1, h1, ds1, seed1, x4, x5, x6, e1, hd1, hl1, s0, s1⟩ := forD_ix (t := .nm 4) (b := drCell) PyData.int (fun k ρ => ∃ ds seed x4 x5 x6, ρ = [.fz (eI ns), .dat (.int many), .ol (eI ds), .dat (.int seed), x4, x5, x6] ∧ DrawOk ds ∧ ds.length ≤ 60 * k ∧ 0 ≤ seed ∧ seed < 2147483647) (ns.take 63)
    (ρ := [.fz (eI ns), .dat (.int many), .ol (eI []), .dat (.int 7), .un, .un, .un]) (by
      rintro k i ρ hk hlt ⟨ds, seed, x4, x5, x6, rfl, hd, hl2, s0, s1⟩
      rw [List.length_take] at hlt
      obtain ⟨ds2, seed2, y4, y5, y6, q, hd2, hl3, t0, t1⟩ := drCell_ok (a := .fz (eI ns)) (b := .dat (.int many)) (c := x4) (d := x5) (e := x6) (n := i) hd (by omega) s0 s1
      exact ⟨_, .inl q, ds2, seed2, y4, y5, y6, rfl, hd2, by omega, t0, t1⟩) ⟨[], 7, _, _, _, rfl, (fun _ h => by cases h), by simp, by decide, by decide⟩
  subst e1
  rw [List.length_take] at hl1
  obtain ⟨ρ2, h2, ds2, seed2, y6, e2, hd2, hl2, hk2, t0, t1⟩ := forD_ix (t := .nm 6) (b := drMore) (fun (i : Nat) => PyData.int i) (fun k ρ => ∃ ds seed x6, ρ = [.fz (eI ns), .dat (.int many), .ol (eI ds), .dat (.int seed), x4, x5, x6] ∧ DrawOk ds ∧ ds.length ≤ 3780 + k ∧ (k ≤ ds.length ∨ many ≤ ds.length) ∧ 0 ≤ seed ∧ seed < 2147483647) (List.range many)
    (ρ := [.fz (eI ns), .dat (.int many), .ol (eI ds1), .dat (.int seed1), x4, x5, x6]) (by
      rintro k i ρ hk hlt ⟨ds, seed, x6, rfl, hd, hl2, hk2, s0, s1⟩
      rw [List.length_range] at hlt
      have hi : i = k := by
        rw [List.getElem?_range hlt] at hk
        exact (Option.some.inj hk).symm
      subst hi
      obtain ⟨ds2, seed2, q, hd2, hl3, ha, hb, t0, t1⟩ := drMore_ok (a := .fz (eI ns)) (c := x4) (d := x5) (e := x6) (many := many) (i := i) hm (by omega) hd (by omega) s0 s1
      refine ⟨_, .inl q, ds2, seed2, _, rfl, hd2, by omega, ?_, t0, t1⟩
      by_cases hc : ds.length < many
      · have := hb hc; omega
      · have := ha (by omega); omega) ⟨ds1, seed1, x6, rfl, hd1, by omega, by omega, s0, s1⟩
  subst e2
  rw [List.length_range] at hk2
  refine ⟨ds2.take many, ?_, by rw [List.length_take]; omega, fun d hd => hd2 d (List.mem_of_mem_take hd)⟩
  have hr : range1D [.int (many : Int)] = .ok ((List.range many).map fun (i : Nat) => .int i) := by
    have := range1_ok (n := (many : Int)) (by omega) (by omega)
    simpa using this
  have hc : cutD (eI ns) none (some 63) = eI (ns.take 63) := by
    rw [cut_to _ (by decide)]
    simp [← List.map_take]
  have hb : bdDraws = sSeq (sOwn 2 (dList dNil)) (sSeq (sSet 3 (dLit (.int 7))) (sSeq (sFor (iD (dSl slD (dVarB 0) oNone (oSome (dLit (.int 63))))) (.nm 4) drCell) (sSeq (sFor (dCallL range1D (dCons (dVar 1) dNil)) (.nm 6) drMore) (sRet (dSl slD (dVarB 2) oNone (oSome (dVar 1))))))) := rfl
  have h1' : forD (.nm 4) drCell (eI (ns.take 63)) [.fz (eI ns), .dat (.int many), .ol [], .dat (.int 7), .un, .un, .un] = _ := h1
  have h2' : forD (.nm 6) drMore ((List.range many).map fun (i : Nat) => .int i) [.fz (eI ns), .dat (.int many), .ol (eI ds1), .dat (.int seed1), x4, x5, x6] = _ := h2
  have e1 : sOwn 2 (dList dNil) [.fz (eI ns), .dat (.int many), .un, .un, .un, .un, .un] = .ok (.nx [.fz (eI ns), .dat (.int many), .ol [], .un, .un, .un, .un]) := by simp
  have e2 : sSet 3 (dLit (.int 7)) [.fz (eI ns), .dat (.int many), .ol [], .un, .un, .un, .un] = .ok (.nx [.fz (eI ns), .dat (.int many), .ol [], .dat (.int 7), .un, .un, .un]) := by simp
  have e3 : sFor (iD (dSl slD (dVarB 0) oNone (oSome (dLit (.int 63))))) (.nm 4) drCell [.fz (eI ns), .dat (.int many), .ol [], .dat (.int 7), .un, .un, .un] = .ok (.nx [.fz (eI ns), .dat (.int many), .ol (eI ds1), .dat (.int seed1), x4, x5, x6]) := by
    rw [ev_for]
    have : iD (dSl slD (dVarB 0) oNone (oSome (dLit (.int 63)))) [.fz (eI ns), .dat (.int many), .ol [], .dat (.int 7), .un, .un, .un] = .ok (eI (ns.take 63)) := by
      simp only [ev_iD, ev_sl, ev_varB, ev_oN, ev_oS, ev_lit, List.getElem?_cons_zero, slB_fz, ok_b, sl_l, hc, it_l]
    rw [this, ev_lift_ok]
    exact h1'
  have e4 : sFor (dCallL range1D (dCons (dVar 1) dNil)) (.nm 6) drMore [.fz (eI ns), .dat (.int many), .ol (eI ds1), .dat (.int seed1), x4, x5, x6] = .ok (.nx [.fz (eI ns), .dat (.int many), .ol (eI ds2), .dat (.int seed2), x4, x5, y6]) := by
    rw [ev_for]
    have : dCallL range1D (dCons (dVar 1) dNil) [.fz (eI ns), .dat (.int many), .ol (eI ds1), .dat (.int seed1), x4, x5, x6] = .ok ((List.range many).map fun (i : Nat) => .int i) := by
      simp [hr]
    rw [this, ev_lift_ok]
    exact h2'
  have e5 : sRet (dSl slD (dVarB 2) oNone (oSome (dVar 1))) [.fz (eI ns), .dat (.int many), .ol (eI ds2), .dat (.int seed2), x4, x5, y6] = .ok (.rt (lI (ds2.take many))) := by
    simp [cut_to, ← List.map_take]
  show (if 2 = 2 then outD (bdDraws [.fz (eI ns), .dat (.int many), .un, .un, .un, .un, .un]) else stuck) = _
  rw [if_pos rfl, hb, ev_seq_nx e1, ev_seq_nx e2, ev_seq_nx e3, ev_seq_nx e4, e5]
  rfl
end Den

set_option Elab.async false
set_option linter.all false
set_option maxRecDepth 100000
set_option maxHeartbeats 4000000
namespace Den
open PySem PySem.Spec PyProof.Rows L2
/-! ### is_whole, ascends: shared by the laws -/
def isWhole (d : PyData) (lo hi : Int) : Bool := match d with
  | .int i => decide (lo ≤ i) && decide (i ≤ hi)
  | _ => false
def bdWhole : DS := (sRet (dAndV (dIsi "int" (dVar 0)) (dAndV (dNotV (dIsi "bool" (dVar 0))) (dChain leD leD (dVar 1) (dVar 0) (dVar 2)))))
def dictB : PyData → Bool
  | .dict _ => true
  | _ => false
theorem whole_eq (d : PyData) (lo hi : Int) (nd : dictB d = false := by rfl) : fnD [false, false, false] 3 bdWhole [d, .int lo, .int hi] = .ok (.bool (isWhole d lo hi)) := by
  show outD (bdWhole [.dat d, .dat (.int lo), .dat (.int hi)]) = _
  cases d with
  | dict kvs => cases nd
  | int i =>
    simp [bdWhole, isinstD, isWhole]
    by_cases h : lo ≤ i <;> simp [h]
  | _ => simp [bdWhole, isinstD, isWhole]
def asc : List Int → Bool
  | a :: b :: r => decide (a < b) && asc (b :: r)
  | _ => true
theorem asc_iff : ∀ ns : List Int, asc ns = true ↔ ns.Pairwise (· < ·)
  | [] => by simp [asc]
  | [a] => by simp [asc]
  | a :: b :: r => by
    rw [asc, Bool.and_eq_true, asc_iff (b :: r), decide_eq_true_eq, List.pairwise_cons (l := b :: r)]
    constructor
    · rintro ⟨h1, h2⟩
      refine ⟨fun x hx => ?_, h2⟩
      rcases List.mem_cons.mp hx with rfl | hx
      · exact h1
      · have := (List.pairwise_cons.mp h2).1 x hx
        omega
    · rintro ⟨h1, h2⟩
      exact ⟨h1 b (by simp), h2⟩
def bdAsc : DS := (sRet (dCall allD (dCons (dLst (dComp (dCallL zipD (dCons (dVar 0) (dCons (dSl slD (dVar 0) (oSome (dLit (.int 1))) oNone) dNil))) [1, 2] (.tp [(.nm 1), (.nm 2)]) tYesD (dOp2 ltD (dVar 1) (dVar 2)))) dNil)))
theorem zipP_ints (xs ys : List Int) : zipP (eI xs) (eI ys) = (xs.zip ys).map fun p => .tuple [.int p.1, .int p.2] := by
  unfold zipP
  rw [List.zip_map, List.map_map]
  rfl
theorem asc_zip : ∀ ns : List Int, ((ns.zip (ns.drop 1)).all fun p => decide (p.1 < p.2)) = asc ns
  | [] => rfl
  | [a] => rfl
  | a :: b :: r => by
    rw [asc, ← asc_zip (b :: r)]
    rfl
theorem asc_eq (ns : List Int) (h : ns.length ≤ 1000) : fnD [false] 3 bdAsc [tI ns] = .ok (.bool (asc ns)) := by
  have hc : dComp (dCallL zipD (dCons (dVar 0) (dCons (dSl slD (dVar 0) (oSome (dLit (.int 1))) oNone) dNil))) [1, 2] (.tp [(.nm 1), (.nm 2)]) tYesD (dOp2 ltD (dVar 1) (dVar 2)) [.dat (tI ns), .un, .un] = .ok ((ns.zip (ns.drop 1)).map fun p => .bool (decide (p.1 < p.2))) := by
    refine dComp_map (xs := ns.zip (ns.drop 1)) (fun p => .tuple [.int p.1, .int p.2]) _ ?_ (by decide) ?_ ?_
    · simp only [ev_callL, ev_cons, ev_var, ev_sl, ev_oS, ev_oN, ev_lit, ev_nil, List.getElem?_cons_zero, slV_dat, ok_b, sl_t, cut_from _ (show (0 : Int) ≤ 1 by decide)]
      show (.ok (zipP (eI ns) ((eI ns).drop 1)) : Rs (List PyData)) = _
      rw [← List.map_drop, zipP_ints]
    · rw [List.length_zip]; omega
    · intro p hp
      simp [bodyC, wipeD]
  show outD (bdAsc [.dat (tI ns), .un, .un]) = _
  simp only [bdAsc, ev_ret, ev_call, ev_cons, ev_lst, ev_nil, hc, ok_m, ok_b, all_map, asc_zip, ev_lift_ok, out_rt]
end Den

set_option Elab.async false
set_option linter.all false
set_option maxRecDepth 100000
set_option maxHeartbeats 4000000
namespace Den
open PySem PySem.Spec PyProof.Rows L2
/-! ### rows of ints -/
theorem canLay_ints : ∀ ns : List Int, PyData.canLayAll0 (eI ns) = true
  | [] => rfl
  | n :: ns => by
    show PyData.canLayAll0 (.int n :: eI ns) = true
    rw [PyData.canLayAll0, canLay_ints ns]
    rfl
@[simp] theorem sh_tI (ns : List Int) : SeqAt.shaped (tI ns) = true := by
  simp [SeqAt.shaped, PyData.canLay0, PyData.depth, canLay_ints, PySem.W.depth_ints]
@[simp] theorem sh_lI (ns : List Int) : SeqAt.shaped (lI ns) = true := by
  simp [SeqAt.shaped, PyData.canLay0, PyData.depth, canLay_ints, PySem.W.depth_ints]
theorem eqv_ii (i j : Int) : PyData.eqv (.int i) (.int j) = decide (i = j) := by
  simp [PyData.eqv]
  exact Bool.beq_eq_decide_eq i j
theorem any_int (ns : List Int) (i : Int) : ((eI ns).any fun z => PyData.eqv z (.int i)) = ns.contains i := by
  rw [List.any_map]
  rw [List.contains_eq_any_beq]
  congr 1
  funext n
  simp only [Function.comp_apply, eqv_ii]
  rw [Bool.beq_eq_decide_eq]
  exact decide_eq_decide.mpr eq_comm
@[simp] theorem in_ti (ns : List Int) (i : Int) : inD (.int i) (.tuple (eI ns)) = .ok (.bool (ns.contains i)) := by
  unfold inD
  have := sh_tI ns
  simp only [sh_i, this, Bool.and_self, if_true, any_int]
@[simp] theorem nin_ti (ns : List Int) (i : Int) : notInD (.int i) (.tuple (eI ns)) = .ok (.bool (!ns.contains i)) := by
  unfold notInD
  rw [in_ti]
  rfl
theorem add_tt {xs ys : List PyData} (h : xs.length + ys.length ≤ 1000000) : addD (.tuple xs) (.tuple ys) = .ok (.tuple (xs ++ ys)) := by
  show (if okLen (xs.length + ys.length) = true then _ else _) = _
  rw [if_pos (okLen_of h)]
theorem add_ll {xs ys : List PyData} (h : xs.length + ys.length ≤ 1000000) : addD (.list xs) (.list ys) = .ok (.list (xs ++ ys)) := by
  show (if okLen (xs.length + ys.length) = true then _ else _) = _
  rw [if_pos (okLen_of h)]
theorem mul_abs {i j : Int} (hi : i.natAbs < 2 ^ 100) (hj : j.natAbs < 2 ^ 100) : mulD (.int i) (.int j) = .ok (.int (i * j)) := by
  refine mul_i ?_
  have a : i.natAbs.log2 ≤ 100 := by
    rcases Nat.eq_zero_or_pos i.natAbs with e | e
    · rw [e]; decide
    · have := (Nat.log2_lt (n := i.natAbs) (k := 100) (by omega)).mpr hi; omega
  have b : j.natAbs.log2 ≤ 100 := by
    rcases Nat.eq_zero_or_pos j.natAbs with e | e
    · rw [e]; decide
    · have := (Nat.log2_lt (n := j.natAbs) (k := 100) (by omega)).mpr hj; omega
  omega
theorem ev_for_eq {it : DL} {t : Tg} {b : DS} {ρ : EnvD} {ds : List PyData} {r : Rs Out} (hi : it ρ = .ok ds) (h : forD t b ds ρ = r) : sFor it t b ρ = r := by rw [ev_for, hi, ev_lift_ok, h]
/-! ### two fors -/
theorem comp2L_eq {α β : Type} {t t1 : Tg} {tt tt1 : DT} {it1 : DL} {vs1 : List Nat} {e : DE} {ρ : EnvD} (enc : α → PyData) (enc1 : β → PyData) (ys : α → List β) (f : α → β → Option PyData) : ∀ xs : List α, (∀ x ∈ xs, ∃ ρ1, t.d ρ (enc x) = .ok ρ1 ∧ tt ρ1 = .ok true ∧ it1 ρ1 = .ok ((ys x).map enc1) ∧ ∀ y ∈ ys x, bodyC t1 tt1 e (wipeD ρ1 vs1) (enc1 y) = .ok (f x y)) →
    comp2L t tt it1 vs1 t1 tt1 e ρ (xs.map enc) = .ok (xs.flatMap fun x => (ys x).filterMap (f x))
  | [], _ => rfl
  | x :: xs, h => by
    obtain ⟨ρ1, h1, h2, h3, h4⟩ := h x List.mem_cons_self
    rw [List.map_cons, comp2L, h1, ok_b, h2, ok_b, if_pos rfl, h3, ok_b, compL_eq enc1 (f x) _ h4, ok_b, comp2L_eq enc enc1 ys f xs fun y hy => h y (List.mem_cons_of_mem _ hy), ok_b, List.flatMap_cons]
theorem dComp2_eq {α β : Type} {it it1 : DL} {vs vs1 : List Nat} {t t1 : Tg} {tt tt1 : DT} {e : DE} {ρ : EnvD} {xs : List α} (enc : α → PyData) (enc1 : β → PyData) (ys : α → List β) (f : α → β → Option PyData) (hi : it ρ = .ok (xs.map enc)) (hw : (t.within vs && t1.within vs1) = true)
    (hl : (xs.flatMap fun x => (ys x).filterMap (f x)).length ≤ 1000000)
    (h : ∀ x ∈ xs, ∃ ρ1, t.d (wipeD ρ vs) (enc x) = .ok ρ1 ∧ tt ρ1 = .ok true ∧ it1 ρ1 = .ok ((ys x).map enc1) ∧ ∀ y ∈ ys x, bodyC t1 tt1 e (wipeD ρ1 vs1) (enc1 y) = .ok (f x y)) :
    dComp2 it vs t tt it1 vs1 t1 tt1 e ρ = .ok (xs.flatMap fun x => (ys x).filterMap (f x)) := by
  unfold dComp2
  rw [hi, ok_b, if_pos hw, comp2L_eq enc enc1 ys f xs h]
  show (if okLen (xs.flatMap fun x => (ys x).filterMap (f x)).length = true then _ else _) = _
  rw [if_pos (okLen_of hl)]
/-! ### the least by its first item -/
theorem fold_min_key {α : Type} (lt : α → α → Bool) (k : α → Int) (h1 : ∀ a b, k a < k b → lt a b = true) (h2 : ∀ a b, lt a b = true → k a ≤ k b) : ∀ (xs : List α) (x : α), (∀ y ∈ x :: xs, k (xs.foldl (fun a y => if lt y a then y else a) x) ≤ k y)
  | [], x, y, hy => by
    rcases List.mem_cons.mp hy with rfl | hy
    · exact Int.le_refl _
    · cases hy
  | z :: zs, x, y, hy => by
    rw [List.foldl_cons]
    have ih := fold_min_key lt k h1 h2 zs (if lt z x then z else x)
    have i0 := ih _ List.mem_cons_self
    by_cases hz : lt z x = true
    · rw [if_pos hz] at ih i0 ⊢
      rcases List.mem_cons.mp hy with rfl | hy
      · exact Int.le_trans i0 (h2 _ _ hz)
      · exact ih y hy
    · rw [if_neg hz] at ih i0 ⊢
      rcases List.mem_cons.mp hy with rfl | hy
      · exact i0
      · rcases List.mem_cons.mp hy with rfl | hy
        · have : ¬ k y < k x := fun h => hz (h1 _ _ h)
          omega
        · exact ih y (List.mem_cons_of_mem _ hy)
/-- the fold over the items of a typed row -/
theorem minD_map {α : Type} (enc : α → PyData) (lt : α → α → Bool) (h : ∀ a b, PySem.W.dataLt (enc a) (enc b) = lt a b) : ∀ (xs : List α) (x : α), PySem.W.minD (enc x) (xs.map enc) = enc (xs.foldl (fun a y => if lt y a then y else a) x)
  | [], x => rfl
  | y :: ys, x => by
    have ih := minD_map enc lt h ys (if lt y x then y else x)
    rw [List.foldl_cons, ← ih, List.map_cons]
    show PySem.W.minD (if PySem.W.dataLt (enc y) (enc x) then enc y else enc x) _ = _
    rw [h]
    congr 1
    split <;> rfl
theorem tup_lt_first {a b : Int} {xs ys : List PyData} (h : a ≠ b) : PySem.W.dataLt (.tuple (.int a :: xs)) (.tuple (.int b :: ys)) = decide (a < b) := by
  rw [PySem.W.dataLt_tuple, PySem.W.dataLt_cons (by rfl), eqv_ii, if_neg (by simpa using h), PySem.W.dataLt_int]
end Den

set_option Elab.async false
set_option linter.all false
set_option maxRecDepth 100000
set_option maxHeartbeats 4000000
namespace Ty
open PySem PySem.Spec PyProof.Rows L2 Den
/-! ### values: equal, less -/
section
variable {α β γ α1 α2 α3 α4 α5 α6 : Type}
/-- values that can be told from one another -/
structure EqE [DecidableEq α] (e : α → PyData) (n : Nat) : Prop where
  lay : ∀ a, (e a).canLay0 = true
  dep : ∀ a, (e a).depth ≤ n
  eqv : ∀ a b, PyData.eqv (e a) (e b) = decide (a = b)
theorem EqE.sh [DecidableEq α] {e : α → PyData} {n : Nat} (h : EqE e n) (hn : n ≤ 64) (a : α) : SeqAt.shaped (e a) = true := by
  unfold SeqAt.shaped
  rw [h.lay, decide_eq_true (Nat.le_trans (h.dep a) hn)]; rfl
theorem EqE.inj [DecidableEq α] {e : α → PyData} {n : Nat} (h : EqE e n) {a b : α} (q : e a = e b) : a = b := by
  have := h.eqv a b
  have h2 := h.eqv b b
  rw [q] at this
  rw [this] at h2
  simpa using h2
theorem eqInt : EqE eInt 0 := ⟨fun _ => rfl, fun _ => Nat.le_refl _, fun a b => by
  simp [PyData.eqv]
  exact Bool.beq_eq_decide_eq a b⟩
theorem eqBool : EqE eBool 0 := ⟨fun _ => rfl, fun _ => Nat.le_refl _, fun a b => by cases a <;> cases b <;> rfl⟩
theorem eqNon : EqE eNon 0 := ⟨fun _ => rfl, fun _ => Nat.le_refl _, fun a b => rfl⟩
theorem toNat_inj : ∀ {a b : List Char}, a.map Char.toNat = b.map Char.toNat → a = b
  | [], [], _ => rfl
  | [], _ :: _, h => by cases h
  | _ :: _, [], h => by cases h
  | a :: as, b :: bs, h => by
    rw [List.map_cons, List.map_cons] at h
    injection h with h1 h2
    rw [Char.toNat_inj.mp h1, toNat_inj h2]
theorem eqStr : EqE eStr 0 := ⟨fun a => by
    show PyData.strOk _ = true
    unfold PyData.strOk
    rw [List.all_toArray, List.all_map, List.all_eq_true]
    intro c _
    have := c.valid
    unfold UInt32.isValidChar Nat.isValidChar at this
    show decide (c.toNat < 1114112) = true
    unfold Char.toNat
    exact decide_eq_true (by omega), fun _ => Nat.le_refl _, fun a b => by
    simp only [PyData.eqv]
    by_cases h : a = b
    · subst h; simp
    · rw [decide_eq_false h]
      simp only [beq_eq_false_iff_ne, ne_eq, Str.mk.injEq]
      intro q
      exact h (toNat_inj (by simpa using congrArg Array.toList q))⟩
theorem layAll (e : α → PyData) (h : ∀ a, (e a).canLay0 = true) : ∀ xs : List α, PyData.canLayAll0 (xs.map e) = true
  | [] => rfl
  | x :: xs => by rw [List.map_cons, PyData.canLayAll0, h, layAll e h xs]; rfl
theorem depAll (e : α → PyData) (n : Nat) (h : ∀ a, (e a).depth ≤ n) : ∀ xs : List α, PyData.depthAll (xs.map e) ≤ n
  | [] => Nat.zero_le _
  | x :: xs => by rw [List.map_cons, PyData.depthAll]; exact Nat.max_le.mpr ⟨h x, depAll e n h xs⟩
theorem eqvAll_map [DecidableEq α] (e : α → PyData) (h : ∀ a b, PyData.eqv (e a) (e b) = decide (a = b)) : ∀ xs ys : List α, PyData.eqvAll (xs.map e) (ys.map e) = decide (xs = ys)
  | [], [] => rfl
  | [], _ :: _ => rfl
  | _ :: _, [] => rfl
  | x :: xs, y :: ys => by
    rw [List.map_cons, List.map_cons, PyData.eqvAll, h, eqvAll_map e h xs ys]
    by_cases h1 : x = y <;> by_cases h2 : xs = ys <;> simp [h1, h2]
theorem eqTup [DecidableEq α] {e : α → PyData} {n : Nat} (h : EqE e n) : EqE (eTup e) (n + 1) := ⟨fun xs => layAll e h.lay xs, fun xs => Nat.succ_le_succ (depAll e n h.dep xs), fun xs ys => by
  show PyData.eqv (.tuple _) (.tuple _) = _
  rw [PyData.eqv]; exact eqvAll_map e h.eqv xs ys⟩
theorem eqLst [DecidableEq α] {e : α → PyData} {n : Nat} (h : EqE e n) : EqE (eLst e) (n + 1) := ⟨fun xs => layAll e h.lay xs, fun xs => Nat.succ_le_succ (depAll e n h.dep xs), fun xs ys => by
  show PyData.eqv (.list _) (.list _) = _
  rw [PyData.eqv]; exact eqvAll_map e h.eqv xs ys⟩
/-- never None -/
def NN (e : α → PyData) : Prop := ∀ a, noneD (e a) = false
theorem nnT {e : α → PyData} : NN (eTup e) := fun _ => rfl
theorem eqOpt [DecidableEq α] {e : α → PyData} {n : Nat} (h : EqE e n) (hn : NN e) : EqE (eOpt e) n := ⟨fun a => by cases a; rfl; exact h.lay _, fun a => by cases a; exact Nat.zero_le _; exact h.dep _, fun a b => by
  cases a with
  | none =>
    cases b with
    | none => rfl
    | some y =>
      have := hn y
      show PyData.eqv .none (e y) = _
      cases hy : e y <;> rw [hy] at this <;> first | rfl | cases this
  | some x =>
    cases b with
    | none =>
      have := hn x
      show PyData.eqv (e x) .none = _
      cases hx : e x <;> rw [hx] at this <;> first | rfl | cases this
    | some y =>
      show PyData.eqv (e x) (e y) = _
      rw [h.eqv]
      by_cases q : x = y <;> simp [q]⟩
theorem eqP0 : EqE eP0 1 := ⟨fun _ => rfl, fun _ => Nat.le_refl _, fun _ _ => rfl⟩
theorem eqP1 [DecidableEq α1] {e1 : α1 → PyData} {n : Nat} (h1 : EqE e1 n) : EqE (eP1 e1) (n + 1) := ⟨fun a => by
    show (e1 a).canLay0 && true = true
    rw [h1.lay]; rfl, fun a => by
    show max (e1 a).depth 0 + 1 ≤ _
    have := h1.dep a; omega, fun a b => by
    show (PyData.eqv (e1 a) (e1 b) && true) = _
    rw [h1.eqv, Bool.and_true]⟩
/-- a tuple, its first item apart -/
theorem eqCons [DecidableEq α1] [DecidableEq β] {e1 : α1 → PyData} {es : β → List PyData} {n : Nat} (h1 : EqE e1 n) (h2 : EqE (fun x => .tuple (es x)) (n + 1)) : EqE (fun x : α1 × β => .tuple (e1 x.1 :: es x.2)) (n + 1) := ⟨fun a => by
    show ((e1 a.1).canLay0 && PyData.canLayAll0 (es a.2)) = true
    rw [h1.lay]
    exact h2.lay a.2, fun a => by
    show max (e1 a.1).depth (PyData.depthAll (es a.2)) + 1 ≤ _
    have := h1.dep a.1
    have h3 : PyData.depthAll (es a.2) + 1 ≤ n + 1 := h2.dep a.2
    omega, fun a b => by
    show (PyData.eqv (e1 a.1) (e1 b.1) && PyData.eqvAll (es a.2) (es b.2)) = _
    have h3 : PyData.eqvAll (es a.2) (es b.2) = decide (a.2 = b.2) := h2.eqv a.2 b.2
    rw [h1.eqv, h3]
    by_cases q1 : a.1 = b.1 <;> by_cases q2 : a.2 = b.2 <;> simp [q1, q2, Prod.ext_iff]⟩
theorem EqE.mono [DecidableEq α] {e : α → PyData} {n m : Nat} (h : EqE e n) (hm : n ≤ m) : EqE e m := ⟨h.lay, fun a => Nat.le_trans (h.dep a) hm, h.eqv⟩
variable [DecidableEq α1] [DecidableEq α2] [DecidableEq α3] [DecidableEq α4] [DecidableEq α5] [DecidableEq α6] {e1 : α1 → PyData} {e2 : α2 → PyData} {e3 : α3 → PyData} {e4 : α4 → PyData} {e5 : α5 → PyData} {e6 : α6 → PyData} {n : Nat}
theorem eqP2 (h1 : EqE e1 n) (h2 : EqE e2 n) : EqE (eP2 e1 e2) (n + 1) := eqCons (es := fun x => [e2 x]) h1 (eqP1 h2)
theorem eqP3 (h1 : EqE e1 n) (h2 : EqE e2 n) (h3 : EqE e3 n) : EqE (eP3 e1 e2 e3) (n + 1) := eqCons (es := fun x : α2 × α3 => [e2 x.1, e3 x.2]) h1 (eqP2 h2 h3)
theorem eqP4 (h1 : EqE e1 n) (h2 : EqE e2 n) (h3 : EqE e3 n) (h4 : EqE e4 n) : EqE (eP4 e1 e2 e3 e4) (n + 1) := eqCons (es := fun x : α2 × α3 × α4 => [e2 x.1, e3 x.2.1, e4 x.2.2]) h1 (eqP3 h2 h3 h4)
theorem eqP5 (h1 : EqE e1 n) (h2 : EqE e2 n) (h3 : EqE e3 n) (h4 : EqE e4 n) (h5 : EqE e5 n) : EqE (eP5 e1 e2 e3 e4 e5) (n + 1) := eqCons (es := fun x : α2 × α3 × α4 × α5 => [e2 x.1, e3 x.2.1, e4 x.2.2.1, e5 x.2.2.2]) h1 (eqP4 h2 h3 h4 h5)
theorem eqP6 (h1 : EqE e1 n) (h2 : EqE e2 n) (h3 : EqE e3 n) (h4 : EqE e4 n) (h5 : EqE e5 n) (h6 : EqE e6 n) : EqE (eP6 e1 e2 e3 e4 e5 e6) (n + 1) := eqCons (es := fun x : α2 × α3 × α4 × α5 × α6 => [e2 x.1, e3 x.2.1, e4 x.2.2.1, e5 x.2.2.2.1, e6 x.2.2.2.2]) h1 (eqP5 h2 h3 h4 h5 h6)
end
section
variable {α β γ α1 α2 α3 α4 α5 α6 : Type}
/-- values in an order -/
structure LtE [DecidableEq α] (e : α → PyData) (n : Nat) (lt : α → α → Bool) : Prop extends EqE e n where
  alk : ∀ a b, PySem.W.alike (e a) (e b) = true
  lt : ∀ a b, PySem.W.dataLt (e a) (e b) = lt a b
  nn : ∀ a, noneD (e a) = false
def ltInt (a b : Int) : Bool := decide (a < b)
def ltStr (a b : List Char) : Bool := decide (a.map Char.toNat < b.map Char.toNat)
def ltP1 (l : α → α → Bool) : α → α → Bool := l
def ltP2 [DecidableEq α1] (l1 : α1 → α1 → Bool) (l2 : α2 → α2 → Bool) (a b : α1 × α2) : Bool := if a.1 = b.1 then l2 a.2 b.2 else l1 a.1 b.1
def lexL [DecidableEq α] (l : α → α → Bool) : List α → List α → Bool
  | _, [] => false
  | [], _ :: _ => true
  | x :: xs, y :: ys => if x = y then lexL l xs ys else l x y
theorem lInt : LtE eInt 0 ltInt := { eqInt with alk := (fun _ _ => rfl), lt := fun a b => PySem.W.dataLt_int a b, nn := fun _ => rfl }
theorem lStr : LtE eStr 0 ltStr where
  toEqE := eqStr
  alk := fun _ _ => rfl
  lt := fun a b => by
    rw [PySem.W.dataLt_str]
    unfold ltStr
    simp
  nn := fun _ => rfl
theorem lBool : LtE eBool 0 (fun a b => !a && b) where
  toEqE := eqBool
  alk := fun _ _ => rfl
  lt := fun a b => by
    rw [PySem.W.dataLt_bool]; cases a <;> cases b <;> rfl
  nn := fun _ => rfl
theorem alkAll {e : α → PyData} (h : ∀ a b, PySem.W.alike (e a) (e b) = true) : ∀ xs ys : List α, PySem.W.alikeAll (xs.map e) (ys.map e) = true
  | [], _ => by simp [PySem.W.alikeAll]
  | _ :: _, [] => by simp [PySem.W.alikeAll]
  | x :: xs, y :: ys => by rw [List.map_cons, List.map_cons, PySem.W.alikeAll, h, alkAll h xs ys]; rfl
theorem rowLt_nil (xs : List PyData) : PySem.W.rowLt xs [] = false := by
  cases xs with
  | nil => exact PyProof.Rows.lex_irrefl _
  | cons x xs =>
    unfold PySem.W.rowLt
    rw [PySem.W.keyToksAll, PySem.W.keyToksAll]
    rfl
theorem rowLt_cons (y : PyData) (ys : List PyData) : PySem.W.rowLt [] (y :: ys) = true := by
  unfold PySem.W.rowLt
  rw [PySem.W.keyToksAll, PySem.W.keyToksAll]
  rfl
theorem rowLt_map [DecidableEq α] {e : α → PyData} {n : Nat} {l : α → α → Bool} (h : LtE e n l) : ∀ xs ys : List α, PySem.W.rowLt (xs.map e) (ys.map e) = lexL l xs ys
  | xs, [] => by
    rw [List.map_nil, rowLt_nil]
    cases xs <;> rfl
  | [], y :: ys => by rw [List.map_cons, List.map_nil, rowLt_cons]; rfl
  | x :: xs, y :: ys => by
    rw [List.map_cons, List.map_cons]
    have := PySem.W.dataLt_cons (h.alk x y) (xs.map e) (ys.map e)
    show PyProof.Rows.lexLt _ _ _ = _
    rw [this, h.eqv, lexL]
    have ih : PyProof.Rows.lexLt itemOrd (PySem.W.keyToksAll (xs.map e)) (PySem.W.keyToksAll (ys.map e)) = _ := rowLt_map h xs ys
    rw [ih, h.lt]
    by_cases q : x = y
    · rw [if_pos (decide_eq_true q), if_pos q]
    · rw [if_neg (by simpa using q), if_neg q]
theorem lTup [DecidableEq α] {e : α → PyData} {n : Nat} {l : α → α → Bool} (h : LtE e n l) : LtE (eTup e) (n + 1) (lexL l) := { eqTup h.toEqE with
  alk := fun xs ys => by
    show PySem.W.alike (.tuple _) (.tuple _) = true
    rw [PySem.W.alike]; exact alkAll h.alk xs ys
  lt := fun xs ys => by
    show PySem.W.dataLt (.tuple _) (.tuple _) = _
    rw [PySem.W.dataLt_tuple]; exact rowLt_map h xs ys
  nn := fun _ => rfl }
theorem lLst [DecidableEq α] {e : α → PyData} {n : Nat} {l : α → α → Bool} (h : LtE e n l) : LtE (eLst e) (n + 1) (lexL l) := { eqLst h.toEqE with
  alk := fun xs ys => by
    show PySem.W.alike (.list _) (.list _) = true
    rw [PySem.W.alike]; exact alkAll h.alk xs ys
  lt := fun xs ys => by
    show PySem.W.dataLt (.list _) (.list _) = _
    rw [PySem.W.dataLt_list]; exact rowLt_map h xs ys
  nn := fun _ => rfl }
theorem lP1 [DecidableEq α1] {e1 : α1 → PyData} {n : Nat} {l1 : α1 → α1 → Bool} (h1 : LtE e1 n l1) (irr : ∀ a, l1 a a = false) : LtE (eP1 e1) (n + 1) l1 := { eqP1 h1.toEqE with
  alk := fun a b => by
    show PySem.W.alike (.tuple _) (.tuple _) = true
    rw [PySem.W.alike, PySem.W.alikeAll, h1.alk, PySem.W.alikeAll]; rfl
  lt := fun a b => by
    show PySem.W.dataLt (.tuple _) (.tuple _) = _
    rw [PySem.W.dataLt_tuple, PySem.W.dataLt_cons (h1.alk a b), h1.eqv, h1.lt]
    have : PyProof.Rows.lexLt itemOrd (PySem.W.keyToksAll []) (PySem.W.keyToksAll []) = false := PyProof.Rows.lex_irrefl _
    rw [this]
    by_cases q : a = b
    · subst q; simp [irr]
    · rw [if_neg (by simpa using q)]
  nn := fun _ => rfl }
theorem lCons [DecidableEq α1] [DecidableEq β] {e1 : α1 → PyData} {es : β → List PyData} {n : Nat} {l1 : α1 → α1 → Bool} {l2 : β → β → Bool} (h1 : LtE e1 n l1) (h2 : LtE (fun x => .tuple (es x)) (n + 1) l2) : LtE (fun x : α1 × β => .tuple (e1 x.1 :: es x.2)) (n + 1) (ltP2 l1 l2) := { eqCons h1.toEqE h2.toEqE with
  alk := fun a b => by
    show PySem.W.alike (.tuple _) (.tuple _) = true
    have h3 : PySem.W.alikeAll (es a.2) (es b.2) = true := by
      have := h2.alk a.2 b.2
      rw [PySem.W.alike] at this; exact this
    rw [PySem.W.alike, PySem.W.alikeAll, h1.alk, h3]; rfl
  lt := fun a b => by
    show PySem.W.dataLt (.tuple _) (.tuple _) = _
    rw [PySem.W.dataLt_tuple, PySem.W.dataLt_cons (h1.alk a.1 b.1), h1.eqv, h1.lt]
    have h3 : PyProof.Rows.lexLt itemOrd (PySem.W.keyToksAll (es a.2)) (PySem.W.keyToksAll (es b.2)) = l2 a.2 b.2 := by
      have := h2.lt a.2 b.2
      rw [PySem.W.dataLt_tuple] at this; exact this
    rw [h3]
    unfold ltP2
    by_cases q : a.1 = b.1
    · rw [if_pos (decide_eq_true q), if_pos q]
    · rw [if_neg (by simpa using q), if_neg q]
  nn := fun _ => rfl }
theorem LtE.irr [DecidableEq α] {e : α → PyData} {n : Nat} {l : α → α → Bool} (h : LtE e n l) (a : α) : l a a = false := by
  rw [← h.lt]; exact PyProof.Rows.lex_irrefl _
theorem LtE.mono [DecidableEq α] {e : α → PyData} {n m : Nat} {l : α → α → Bool} (h : LtE e n l) (hm : n ≤ m) : LtE e m l := { h.toEqE.mono hm with alk := h.alk, lt := h.lt, nn := h.nn }
variable [DecidableEq α1] [DecidableEq α2] [DecidableEq α3] [DecidableEq α4] [DecidableEq α5] [DecidableEq α6] {e1 : α1 → PyData} {e2 : α2 → PyData} {e3 : α3 → PyData} {e4 : α4 → PyData} {e5 : α5 → PyData} {e6 : α6 → PyData} {n : Nat}
variable {l1 : α1 → α1 → Bool} {l2 : α2 → α2 → Bool} {l3 : α3 → α3 → Bool} {l4 : α4 → α4 → Bool} {l5 : α5 → α5 → Bool} {l6 : α6 → α6 → Bool}
theorem lP2 (h1 : LtE e1 n l1) (h2 : LtE e2 n l2) : LtE (eP2 e1 e2) (n + 1) (ltP2 l1 l2) := lCons (es := fun x => [e2 x]) h1 (lP1 h2 h2.irr)
theorem lP3 (h1 : LtE e1 n l1) (h2 : LtE e2 n l2) (h3 : LtE e3 n l3) : LtE (eP3 e1 e2 e3) (n + 1) (ltP2 l1 (ltP2 l2 l3)) := lCons (es := fun x : α2 × α3 => [e2 x.1, e3 x.2]) h1 (lP2 h2 h3)
theorem lP4 (h1 : LtE e1 n l1) (h2 : LtE e2 n l2) (h3 : LtE e3 n l3) (h4 : LtE e4 n l4) : LtE (eP4 e1 e2 e3 e4) (n + 1) (ltP2 l1 (ltP2 l2 (ltP2 l3 l4))) := lCons (es := fun x : α2 × α3 × α4 => [e2 x.1, e3 x.2.1, e4 x.2.2]) h1 (lP3 h2 h3 h4)
theorem lP5 (h1 : LtE e1 n l1) (h2 : LtE e2 n l2) (h3 : LtE e3 n l3) (h4 : LtE e4 n l4) (h5 : LtE e5 n l5) : LtE (eP5 e1 e2 e3 e4 e5) (n + 1) (ltP2 l1 (ltP2 l2 (ltP2 l3 (ltP2 l4 l5)))) := lCons (es := fun x : α2 × α3 × α4 × α5 => [e2 x.1, e3 x.2.1, e4 x.2.2.1, e5 x.2.2.2]) h1 (lP4 h2 h3 h4 h5)
end
/-! ### operators -/
section
variable {α β : Type} {e : α → PyData} {n : Nat}
@[irreducible] def mulG (i j : Int) : Rs Int := if i.natAbs < 2 ^ 200 ∧ j.natAbs < 2 ^ 200 then .ok (i * j) else stuck
theorem log_lt {i : Int} (h : i.natAbs < 2 ^ 200) : i.natAbs.log2 ≤ 200 := by
  rcases Nat.eq_zero_or_pos i.natAbs with e | e
  · rw [e]; exact Nat.zero_le _
  · exact Nat.le_of_lt ((Nat.log2_lt (by omega)).mpr h)
theorem mulR {i j : Int} : Rl eInt (mulD (.int i) (.int j)) (mulG i j) := by
  unfold mulG
  split
  · rename_i h
    have h1 := log_lt h.1
    have h2 := log_lt h.2
    show (if _ then _ else _) = _
    rw [if_pos (by omega)]
  · trivial
def divG (i j : Int) : Rs Int := if 0 < j ∧ j < 1073741824 then .ok (i / j) else stuck
def modG (i j : Int) : Rs Int := if 0 < j then .ok (i % j) else stuck
theorem fdivP {i j : Int} (h : 0 < j ∧ j < 1073741824 := by decide) : fdivD (.int i) (.int j) = .ok (.int (i / j)) := by
  show (if _ then _ else _) = _
  rw [if_pos (by omega), Int.fdiv_eq_ediv_of_nonneg _ (by omega)]
theorem modP {i j : Int} (h : 0 < j := by decide) : modD (.int i) (.int j) = .ok (.int (i % j)) := by
  show (if _ then _ else _) = _
  rw [if_pos (by omega), Int.fmod_eq_emod_of_nonneg _ (by omega)]
theorem divR {i j : Int} : Rl eInt (fdivD (.int i) (.int j)) (divG i j) := by
  unfold divG
  split
  · rename_i h; exact fdivP h
  · trivial
theorem modR {i j : Int} : Rl eInt (modD (.int i) (.int j)) (modG i j) := by
  unfold modG
  split
  · rename_i h; exact modP h
  · trivial
theorem powP {i j : Int} (h : 0 ≤ j ∧ j ≤ 1000000 ∧ i.natAbs < 2 ^ 64 := by decide) : powD (.int i) (.int j) = .ok (.int (i ^ j.toNat)) := if_pos h
def catG (xs ys : List α) : Rs (List α) := if xs.length + ys.length ≤ 1000000 then .ok (xs ++ ys) else stuck
theorem catT {xs ys : List α} : Rl (eTup e) (addD (.tuple (xs.map e)) (.tuple (ys.map e))) (catG xs ys) := by
  unfold catG
  split
  · rename_i h
    show (if okLen ((xs.map e).length + (ys.map e).length) = true then _ else _) = _
    rw [if_pos (okLenN (by simpa using h)), ← List.map_append]
  · trivial
theorem catL {xs ys : List α} : Rl (eLst e) (addD (.list (xs.map e)) (.list (ys.map e))) (catG xs ys) := by
  unfold catG
  split
  · rename_i h
    show (if okLen ((xs.map e).length + (ys.map e).length) = true then _ else _) = _
    rw [if_pos (okLenN (by simpa using h)), ← List.map_append]
  · trivial
theorem catS {xs ys : List Char} : Rl eStr (addD (eStr xs) (eStr ys)) (catG xs ys) := by
  unfold catG
  split
  · rename_i h
    show (if okLen (Str.length ⟨(xs.map Char.toNat).toArray⟩ + Str.length ⟨(ys.map Char.toNat).toArray⟩) = true then (.ok (.str (_ ++ _)) : Rs PyData) else _) = _
    rw [if_pos (okLenN (by simpa [Str.length] using h))]
    show (.ok (.str ⟨_ ++ _⟩) : Rs PyData) = .ok (.str ⟨_⟩)
    rw [List.map_append]; simp
  · trivial
@[irreducible] def repG (xs : List α) (k : Int) : Rs (List α) := if k < 2 ^ 62 ∧ -(2 ^ 62) ≤ k ∧ xs.length * k.toNat ≤ 1000000 then .ok (List.replicate k.toNat xs).flatten else stuck
theorem rep_map {xs : List α} : ∀ k : Nat, (List.replicate k (xs.map e)).flatten = (List.replicate k xs).flatten.map e
  | 0 => rfl
  | k + 1 => by rw [List.replicate_succ, List.replicate_succ, List.flatten_cons, List.flatten_cons, List.map_append, rep_map k]
theorem repL {xs : List α} {k : Int} : Rl (eLst e) (mulD (.list (xs.map e)) (.int k)) (repG xs k) := by
  unfold repG
  split
  · rename_i h
    show (if _ then _ else _) = _
    rw [if_pos ⟨by omega, by omega, by rw [List.length_map, sizeLine_eq]; omega⟩, rep_map]
  · trivial
@[irreducible] def repTG (xs : List α) (k : Int) : Rs (List α) := if xs ≠ [] ∧ 2 ≤ k ∧ k ≤ 1000 ∧ xs.length ≤ 1000 then .ok (List.replicate k.toNat xs).flatten else stuck
theorem repT {xs : List α} {k : Int} : Rl (eTup e) (mulD (.tuple (xs.map e)) (.int k)) (repTG xs k) := by
  unfold repTG
  by_cases h : xs ≠ [] ∧ 2 ≤ k ∧ k ≤ 1000 ∧ xs.length ≤ 1000
  · rw [if_pos h]
    show (if _ then _ else _) = _
    rw [if_pos ⟨by simpa using h.1, h.2.1, h.2.2.1, by simpa using h.2.2.2⟩, rep_map]
  · rw [if_neg h]; trivial
/-! equal -/
theorem eqP [DecidableEq α] (h : EqE e n) {x y : α} (hn : n ≤ 64 := by decide) : eqD (e x) (e y) = .ok (.bool (decide (x = y))) := by
  unfold eqD
  rw [h.sh hn, h.sh hn, h.eqv]; rfl
theorem neP [DecidableEq α] (h : EqE e n) {x y : α} (hn : n ≤ 64 := by decide) : neD (e x) (e y) = .ok (.bool (!decide (x = y))) := by
  unfold neD
  rw [h.sh hn, h.sh hn, h.eqv]; rfl
def eqG (d d' : PyData) : Rs Bool := if SeqAt.shaped d && SeqAt.shaped d' then .ok (PyData.eqv d d') else stuck
theorem eqR {d d' : PyData} : Rl eBool (eqD d d') (eqG d d') := by
  unfold eqG eqD
  split
  · rfl
  · trivial
theorem neR {d d' : PyData} : Rl eBool (neD d d') (eqG d d' >>= fun k => .ok (!k)) := by
  unfold eqG neD
  split
  · rfl
  · trivial
theorem any_map [DecidableEq α] (h : EqE e n) {x : α} (xs : List α) : ((xs.map e).any fun z => PyData.eqv z (e x)) = decide (x ∈ xs) := by
  rw [List.any_map]
  induction xs with
  | nil => rfl
  | cons y ys ih =>
    rw [List.any_cons, ih]
    show (PyData.eqv (e y) (e x) || _) = _
    rw [h.eqv]
    by_cases q : y = x <;> by_cases q2 : x ∈ ys <;> simp [q, q2, eq_comm]
    exact fun h => q h.symm
theorem inT [DecidableEq α] (h : EqE e n) {x : α} {xs : List α} (hn : n + 1 ≤ 64 := by decide) : inD (e x) (.tuple (xs.map e)) = .ok (.bool (decide (x ∈ xs))) := by
  unfold inD
  have h1 : SeqAt.shaped (.tuple (xs.map e)) = true := (eqTup h).sh hn xs
  simp only [h.sh (by omega) x, h1, Bool.and_self, if_true, any_map h]
theorem inL [DecidableEq α] (h : EqE e n) {x : α} {xs : List α} (hn : n + 1 ≤ 64 := by decide) : inD (e x) (.list (xs.map e)) = .ok (.bool (decide (x ∈ xs))) := by
  unfold inD
  have h1 : SeqAt.shaped (.list (xs.map e)) = true := (eqLst h).sh hn xs
  simp only [h.sh (by omega) x, h1, Bool.and_self, if_true, any_map h]
theorem ninT [DecidableEq α] (h : EqE e n) {x : α} {xs : List α} (hn : n + 1 ≤ 64 := by decide) : notInD (e x) (.tuple (xs.map e)) = .ok (.bool (!decide (x ∈ xs))) := by
  unfold notInD
  rw [inT h hn]; rfl
theorem ninL [DecidableEq α] (h : EqE e n) {x : α} {xs : List α} (hn : n + 1 ≤ 64 := by decide) : notInD (e x) (.list (xs.map e)) = .ok (.bool (!decide (x ∈ xs))) := by
  unfold notInD
  rw [inL h hn]; rfl
/-- one of a row of any kind -/
def inG (d : PyData) (ds : List PyData) : Rs Bool := if SeqAt.shaped d && SeqAt.shaped (.list ds) then .ok (ds.any fun z => PyData.eqv z d) else stuck
theorem sh_lt (ds : List PyData) : SeqAt.shaped (.tuple ds) = SeqAt.shaped (.list ds) := rfl
theorem inGT {d : PyData} {ds : List PyData} : Rl eBool (inD d (.tuple ds)) (inG d ds) := by
  unfold inG
  show Rl eBool (if SeqAt.shaped d && SeqAt.shaped (.tuple ds) then (.ok (.bool (ds.any fun z => PyData.eqv z d)) : Rs PyData) else stuck) _
  rw [sh_lt]
  by_cases h : (SeqAt.shaped d && SeqAt.shaped (.list ds)) = true
  · rw [if_pos h, if_pos h]; rfl
  · rw [if_neg h, if_neg h]; trivial
theorem inGL {d : PyData} {ds : List PyData} : Rl eBool (inD d (.list ds)) (inG d ds) := by
  unfold inG
  show Rl eBool (if SeqAt.shaped d && SeqAt.shaped (.list ds) then (.ok (.bool (ds.any fun z => PyData.eqv z d)) : Rs PyData) else stuck) _
  by_cases h : (SeqAt.shaped d && SeqAt.shaped (.list ds)) = true
  · rw [if_pos h, if_pos h]; rfl
  · rw [if_neg h, if_neg h]; trivial
theorem not_of {d d' : PyData} {r : Rs Bool} (h : Rl eBool (inD d d') r) : Rl eBool (notInD d d') (r >>= fun k => .ok (!k)) := by
  unfold notInD
  exact Rl.bind h fun x => rfl
/-! less -/
theorem ltP [DecidableEq α] {lt : α → α → Bool} (h : LtE e n lt) {x y : α} (hn : n ≤ 64 := by decide) : ltD (e x) (e y) = .ok (.bool (lt x y)) := by
  unfold ltD
  split
  · rename_i i j h1 h2
    have := h.lt x y
    rw [h1, h2, PySem.W.dataLt_int] at this
    rw [this]
  · rw [if_pos, h.lt]
    rw [h.nn, h.alk, decide_eq_true (Nat.le_trans (h.dep x) hn), decide_eq_true (Nat.le_trans (h.dep y) hn), pl_shaped (h.sh hn x), pl_shaped (h.sh hn y)]
    rfl
/-! None -/
theorem isNoneP {x : Option α} (h : NN e) : isD (eOpt e x) .none = .ok (.bool x.isNone) := by
  cases x with
  | none => rfl
  | some y =>
    show (.ok (.bool (noneD (e y))) : Rs PyData) = _
    rw [h]; rfl
theorem isNotNoneP {x : Option α} (h : NN e) : isNotD (eOpt e x) .none = .ok (.bool x.isSome) := by
  cases x with
  | none => rfl
  | some y =>
    show (.ok (.bool (!noneD (e y))) : Rs PyData) = _
    rw [h]; rfl
/-! places -/
theorem atI_map {xs : List α} {f : α → β} {i : Int} : atI (xs.map f) i = (atI xs i).map f := by
  unfold atI
  rw [List.length_map]
  cases ixN xs.length i with
  | none => rfl
  | some j =>
    show (xs.map f)[j]? = _
    rw [List.getElem?_map]; rfl
def ixG (xs : List α) (i : Int) : Rs α := match atI xs i with
  | some x => .ok x
  | none => stuck
theorem ixT {xs : List α} {i : Int} : Rl e (ixD (.tuple (xs.map e)) (.int i)) (ixG xs i) := by
  unfold ixG
  show Rl e (match atI (xs.map e) i with | some x => (.ok x : Rs PyData) | none => stuck) _
  rw [atI_map]
  cases atI xs i with
  | none => trivial
  | some x => rfl
theorem ixL {xs : List α} {i : Int} : Rl e (ixD (.list (xs.map e)) (.int i)) (ixG xs i) := by
  unfold ixG
  show Rl e (match atI (xs.map e) i with | some x => (.ok x : Rs PyData) | none => stuck) _
  rw [atI_map]
  cases atI xs i with
  | none => trivial
  | some x => rfl
def ixSG (xs : List Char) (i : Int) : Rs (List Char) := if xs.length ≤ 1000000 then ixG xs i >>= fun c => .ok [c] else stuck
theorem ixS {xs : List Char} {i : Int} : Rl eStr (ixD (eStr xs) (.int i)) (ixSG xs i) := by
  unfold ixSG
  split
  · rename_i h
    show Rl eStr (if okLen _ = true then (match atI (xs.map Char.toNat).toArray.toList i with | some c => (.ok (.str ⟨#[c]⟩) : Rs PyData) | none => stuck) else stuck) _
    rw [if_pos (okLenN (by simpa [Str.length] using h))]
    unfold ixG
    rw [show (xs.map Char.toNat).toArray.toList = xs.map Char.toNat by simp, atI_map]
    cases atI xs i with
    | none => trivial
    | some c => rfl
  · trivial
theorem cut_map {xs : List α} {f : α → β} {lo hi : Option Int} : Den.cutD (xs.map f) lo hi = (Den.cutD xs lo hi).map f := by
  unfold Den.cutD
  rw [List.length_map, List.map_take, List.map_drop]
theorem slT {xs : List α} {lo hi : Option Int} : slD (.tuple (xs.map e)) lo hi = .ok (.tuple ((Den.cutD xs lo hi).map e)) := by
  show (.ok (.tuple (Den.cutD (xs.map e) lo hi)) : Rs PyData) = _
  rw [cut_map]
theorem slLi {xs : List α} {lo hi : Option Int} : slD (.list (xs.map e)) lo hi = .ok (.list ((Den.cutD xs lo hi).map e)) := by
  show (.ok (.list (Den.cutD (xs.map e) lo hi)) : Rs PyData) = _
  rw [cut_map]
theorem step_map {xs : List α} {f : α → β} {k : Int} : stepL (xs.map f) k = (stepL xs k).map f := by
  unfold stepL
  rw [List.length_map, List.map_filterMap]
  congr 1
  funext i
  rw [List.getElem?_map]
theorem revT {xs : List α} : stD (.tuple (xs.map e)) (-1) = .ok (.tuple (xs.reverse.map e)) := by
  show (if (-1 : Int) ≠ 0 ∧ (-1 : Int) ≠ 1 then (.ok (.tuple (stepL (xs.map e) (-1))) : Rs PyData) else stuck) = _
  rw [if_pos (by decide), stepL_rev, List.map_reverse]
theorem revL {xs : List α} : stD (.list (xs.map e)) (-1) = .ok (.list (xs.reverse.map e)) := by
  show (if (-1 : Int) = -1 then (.ok (.list (xs.map e).reverse) : Rs PyData) else stuck) = _
  rw [if_pos rfl, List.map_reverse]
def stepG (xs : List α) (k : Int) : Rs (List α) := if 1 < k then .ok (stepL xs k) else stuck
theorem stepR {xs : List α} {k : Int} : Rl (eTup e) (stD (.tuple (xs.map e)) (.ofNat k.toNat)) (stepG xs k) := by
  unfold stepG
  split
  · rename_i h
    have : Int.ofNat k.toNat = k := by simp; omega
    rw [this]
    show (if k ≠ 0 ∧ k ≠ 1 then (.ok (.tuple (stepL (xs.map e) k)) : Rs PyData) else stuck) = _
    rw [if_pos (by omega), step_map]
  · trivial
/-! builtins -/
theorem lenT {xs : List α} : lenD [.tuple (xs.map e)] = .ok (.int (xs.length : Nat)) := by
  show (.ok (.int ((xs.map e).length : Nat)) : Rs PyData) = _
  rw [List.length_map]
theorem lenL {xs : List α} : lenD [.list (xs.map e)] = .ok (.int (xs.length : Nat)) := by
  show (.ok (.int ((xs.map e).length : Nat)) : Rs PyData) = _
  rw [List.length_map]
def lenSG (xs : List Char) : Rs Int := if xs.length ≤ 1000000 then .ok xs.length else stuck
theorem lenS {xs : List Char} : Rl eInt (lenD [eStr xs]) (lenSG xs) := by
  unfold lenSG
  split
  · rename_i h
    show (if okLen _ = true then _ else _) = _
    rw [if_pos (okLenN (by simpa [Str.length] using h))]
    simp [Str.length]
  · trivial
def absI (i : Int) : Int := if i < 0 then -i else i
theorem minP {i j : Int} : Den.minD [.int i, .int j] = .ok (.int (min i j)) := by
  show (.ok (.int (min2 i j)) : Rs PyData) = _
  have : min2 i j = min i j := by unfold min2; omega
  rw [this]
theorem maxP {i j : Int} : Den.maxD [.int i, .int j] = .ok (.int (max i j)) := by
  show (.ok (.int (max2 i j)) : Rs PyData) = _
  have : max2 i j = max i j := by unfold max2; omega
  rw [this]
theorem maxP3 {i j k : Int} : Den.maxD [.int i, .int j, .int k] = .ok (.int (max (max i j) k)) := by
  show (.ok (.int (max2 (max2 i j) k)) : Rs PyData) = _
  have : max2 (max2 i j) k = max (max i j) k := by unfold max2; omega
  rw [this]
theorem sumP {ns : List Int} : sumD [.list (ns.map eInt)] = .ok (.int ns.sum) := Den.sum_map ns
theorem allP {bs : List Bool} : allD [.list (bs.map eBool)] = .ok (.bool (bs.all id)) := by
  have := Den.all_map (id : Bool → Bool) bs
  exact this
theorem anyP {bs : List Bool} : anyD [.list (bs.map eBool)] = .ok (.bool (bs.any id)) := by
  have := Den.any_map (id : Bool → Bool) bs
  exact this
variable [DecidableEq α] {lt : α → α → Bool}
theorem mm_ok (h : LtE e n lt) (hn : n ≤ 64) (xs : List α) : minmaxOk (xs.map e) = true := by
  unfold minmaxOk alikeB noNoneB
  rw [Bool.and_eq_true, Bool.and_eq_true]
  refine ⟨⟨?_, ?_⟩, decide_eq_true (Nat.le_trans (depAll e n h.dep xs) hn)⟩
  · rw [List.all_map, List.all_eq_true]
    intro a _
    rw [Function.comp_apply, List.all_map, List.all_eq_true]
    intro b _
    exact h.alk a b
  · rw [List.all_map, List.all_eq_true]
    intro a _
    simp [h.nn]
/-- the first of the least -/
def minL (lt : α → α → Bool) (x : α) (xs : List α) : α := xs.foldl (fun a y => if lt y a then y else a) x
def maxL (lt : α → α → Bool) (x : α) (xs : List α) : α := xs.foldl (fun a y => if lt a y then y else a) x
def minG (lt : α → α → Bool) : List α → Rs α
  | [] => stuck
  | x :: xs => .ok (minL lt x xs)
def maxG (lt : α → α → Bool) : List α → Rs α
  | [] => stuck
  | x :: xs => .ok (maxL lt x xs)
theorem maxD_map {α : Type} (enc : α → PyData) (lt : α → α → Bool) (h : ∀ a b, PySem.W.dataLt (enc a) (enc b) = lt a b) : ∀ (xs : List α) (x : α), PySem.W.maxD (enc x) (xs.map enc) = enc (xs.foldl (fun a y => if lt a y then y else a) x)
  | [], x => rfl
  | y :: ys, x => by
    have ih := maxD_map enc lt h ys (if lt x y then y else x)
    rw [List.foldl_cons, ← ih, List.map_cons]
    show PySem.W.maxD (if PySem.W.dataLt (enc x) (enc y) then enc y else enc x) _ = _
    rw [h]
    congr 1
    split <;> rfl
theorem minR (h : LtE e n lt) {xs : List α} (hn : n ≤ 64 := by decide) : Rl e (Den.minD [.list (xs.map e)]) (minG lt xs) := by
  cases xs with
  | nil => trivial
  | cons x xs =>
    show (if minmaxOk (e x :: xs.map e) = true then (.ok (PySem.W.minD (e x) (xs.map e)) : Rs PyData) else stuck) = _
    have := mm_ok h hn (x :: xs)
    rw [List.map_cons] at this
    rw [if_pos this, minD_map e lt h.lt]; rfl
theorem minRT (h : LtE e n lt) {xs : List α} (hn : n ≤ 64 := by decide) : Rl e (Den.minD [.tuple (xs.map e)]) (minG lt xs) := by
  cases xs with
  | nil => trivial
  | cons x xs =>
    show (if minmaxOk (e x :: xs.map e) = true then (.ok (PySem.W.minD (e x) (xs.map e)) : Rs PyData) else stuck) = _
    have := mm_ok h hn (x :: xs)
    rw [List.map_cons] at this
    rw [if_pos this, minD_map e lt h.lt]; rfl
theorem maxR (h : LtE e n lt) {xs : List α} (hn : n ≤ 64 := by decide) : Rl e (Den.maxD [.list (xs.map e)]) (maxG lt xs) := by
  cases xs with
  | nil => trivial
  | cons x xs =>
    show (if minmaxOk (e x :: xs.map e) = true then (.ok (PySem.W.maxD (e x) (xs.map e)) : Rs PyData) else stuck) = _
    have := mm_ok h hn (x :: xs)
    rw [List.map_cons] at this
    rw [if_pos this, maxD_map e lt h.lt]; rfl
theorem maxRT (h : LtE e n lt) {xs : List α} (hn : n ≤ 64 := by decide) : Rl e (Den.maxD [.tuple (xs.map e)]) (maxG lt xs) := by
  cases xs with
  | nil => trivial
  | cons x xs =>
    show (if minmaxOk (e x :: xs.map e) = true then (.ok (PySem.W.maxD (e x) (xs.map e)) : Rs PyData) else stuck) = _
    have := mm_ok h hn (x :: xs)
    rw [List.map_cons] at this
    rw [if_pos this, maxD_map e lt h.lt]; rfl
/-- sorted -/
def sortT {α : Type} (lt : α → α → Bool) (xs : List α) : List α := xs.mergeSort fun a b => !lt b a
/-- what sorted takes: tuples with an item at least, or none of them -/
def SoE (e : α → PyData) : Prop := (∀ a, ∃ x r, e a = .tuple (x :: r)) ∨ ∀ a, (match e a with | .none => false | .tuple _ => false | _ => true) = true
theorem sort_map {α : Type} {e : α → PyData} {lt : α → α → Bool} (h : ∀ a b, PySem.W.dataLt (e a) (e b) = lt a b) (xs : List α) : (xs.map e).mergeSort (PySem.W.dataLe false id) = (sortT lt xs).map e := by
  unfold sortT
  refine (List.map_mergeSort fun a _ b _ => ?_).symm
  show (!lt b a) = (!PySem.W.dataLt (e b) (e a))
  rw [h]
theorem sortR (h : LtE e n lt) (hs : SoE e) {xs : List α} (hn : n ≤ 64 := by decide) : sortedL [.list (xs.map e)] = .ok ((sortT lt xs).map e) := by
  show (if _ then _ else _) = _
  rw [if_pos, sort_map h.lt]
  rw [Bool.and_eq_true, Bool.and_eq_true]
  refine ⟨⟨?_, ?_⟩, ?_⟩
  · unfold alikeB
    rw [List.all_map, List.all_eq_true]
    intro a _
    rw [Function.comp_apply, List.all_map, List.all_eq_true]
    intro b _
    exact h.alk a b
  · unfold sortB
    rw [Bool.or_eq_true, List.all_map, List.all_map, List.all_eq_true, List.all_eq_true]
    rcases hs with hs | hs
    · refine .inl fun a _ => ?_
      obtain ⟨x, r, q⟩ := hs a
      show (match e a with | .tuple (_ :: _) => true | _ => false) = true
      rw [q]
    · exact .inr fun a _ => hs a
  · rw [List.all_map, List.all_eq_true]
    intro a _
    exact decide_eq_true (Nat.le_trans (h.dep a) hn)
end
theorem soInt : SoE eInt := .inr fun _ => rfl
theorem soStr : SoE eStr := .inr fun _ => rfl
section
variable {α1 α2 α3 α4 α5 : Type} {e1 : α1 → PyData} {e2 : α2 → PyData} {e3 : α3 → PyData} {e4 : α4 → PyData} {e5 : α5 → PyData}
theorem soP1 : SoE (eP1 e1) := .inl fun _ => ⟨_, _, rfl⟩
theorem soP2 : SoE (eP2 e1 e2) := .inl fun _ => ⟨_, _, rfl⟩
theorem soP3 : SoE (eP3 e1 e2 e3) := .inl fun _ => ⟨_, _, rfl⟩
theorem soP4 : SoE (eP4 e1 e2 e3 e4) := .inl fun _ => ⟨_, _, rfl⟩
theorem soP5 : SoE (eP5 e1 e2 e3 e4 e5) := .inl fun _ => ⟨_, _, rfl⟩
end
end Ty

set_option Elab.async false
set_option linter.all false
set_option maxRecDepth 100000
set_option maxHeartbeats 4000000
namespace Ty
open PySem PySem.Spec PyProof.Rows L2 Den
/-! ### rows that are walked -/
def irng (lo hi : Int) : List Int := (List.range (hi - lo).toNat).map fun (i : Nat) => lo + (i : Int)
theorem irng_map (lo hi : Int) : rngL lo hi = (irng lo hi).map eInt := by
  unfold rngL irng
  rw [List.map_map]; rfl
@[irreducible] def okI (i : Int) : Bool := decide (-1000000000000000000 ≤ i ∧ i < 1000000000000000000)
theorem okI_R {i : Int} (h : okI i = true) : okR i = true := by
  unfold okI at h
  unfold okR
  have h := of_decide_eq_true h
  refine decide_eq_true ⟨?_, ?_⟩
  · exact Int.le_trans (by decide) h.1
  · exact Int.lt_trans h.2 (by decide)
@[irreducible] def rangeG (lo hi : Int) : Rs (List Int) := if okI lo && okI hi then .ok (irng lo hi) else stuck
theorem rng1R {n : Int} : Rl (List.map eInt) (range1D [.int n]) (rangeG 0 n) := by
  unfold rangeG
  cases h : okI n with
  | false => rw [Bool.and_false]; trivial
  | true =>
    rw [show (okI 0 && true) = true by decide +kernel, if_pos rfl]
    show (if okR n then (.ok (rngL 0 n) : Rs (List PyData)) else stuck) = _
    rw [if_pos (okI_R h), irng_map]
theorem rng2R {m n : Int} : Rl (List.map eInt) (range2D [.int m, .int n]) (rangeG m n) := by
  unfold rangeG
  by_cases h : (okI m && okI n) = true
  · rw [if_pos h]
    rw [Bool.and_eq_true] at h
    show (if okR m && okR n then (.ok (rngL m n) : Rs (List PyData)) else stuck) = _
    rw [if_pos (by rw [okI_R h.1, okI_R h.2]; rfl), irng_map]
  · rw [if_neg h]; trivial
theorem rng1P {n : Int} (h : okI n = true := by decide +kernel) : range1D [.int n] = .ok ((irng 0 n).map eInt) := by
  show (if okR n then (.ok (rngL 0 n) : Rs (List PyData)) else stuck) = _
  rw [if_pos (okI_R h), irng_map]
theorem rng2P {m n : Int} (h : okI m = true := by decide +kernel) (h' : okI n = true := by decide +kernel) : range2D [.int m, .int n] = .ok ((irng m n).map eInt) := by
  show (if okR m && okR n then (.ok (rngL m n) : Rs (List PyData)) else stuck) = _
  rw [if_pos (by rw [okI_R h, okI_R h']; rfl), irng_map]
section
variable {α β γ δ : Type} {e : α → PyData} {e' : β → PyData} {ρ : EnvD} {a b : DE}
/-- list(range(..)), tuple(range(..)) -/
@[irreducible] def rgG (lo hi : Int) : Rs (List Int) := if okI lo && okI hi && decide (hi - lo ≤ 1000000) then .ok (irng lo hi) else stuck
theorem rg_ok {lo hi : Int} (h : (okI lo && okI hi && decide (hi - lo ≤ 1000000)) = true) : rgOk lo hi = true := by
  rw [Bool.and_eq_true, Bool.and_eq_true] at h
  have h1 := okI_R h.1.1
  have h2 := okI_R h.1.2
  unfold okR at h1 h2
  have h1 := of_decide_eq_true h1
  have h2 := of_decide_eq_true h2
  have h3 := of_decide_eq_true h.2
  unfold rgOk
  exact decide_eq_true ⟨h1.1, h1.2, h2.1, h2.2, by omega⟩
theorem rgL {r : EnvD → Rs (Int × Int)} {lo hi : Int} (h : r ρ = .ok (lo, hi)) : Rl (List.map eInt) (dLstRg r ρ) (rgG lo hi) := by
  unfold rgG
  by_cases q : (okI lo && okI hi && decide (hi - lo ≤ 1000000)) = true
  · rw [if_pos q]
    show (r ρ >>= fun p => if rgOk p.1 p.2 then (.ok (rngL p.1 p.2) : Rs (List PyData)) else stuck) = _
    rw [h]
    show (if rgOk lo hi then (.ok (rngL lo hi) : Rs (List PyData)) else stuck) = _
    rw [if_pos (rg_ok q), irng_map]
  · rw [if_neg q]; trivial
theorem rgT {r : EnvD → Rs (Int × Int)} {lo hi : Int} (h : r ρ = .ok (lo, hi)) : Rl (eTup eInt) (dTupRg r ρ) (rgG lo hi) := by
  unfold rgG
  by_cases q : (okI lo && okI hi && decide (hi - lo ≤ 1000000)) = true
  · rw [if_pos q]
    show (r ρ >>= fun p => if rgOk p.1 p.2 then (.ok (.tuple (rngL p.1 p.2)) : Rs PyData) else stuck) = _
    rw [h]
    show (if rgOk lo hi then (.ok (.tuple (rngL lo hi)) : Rs PyData) else stuck) = _
    rw [if_pos (rg_ok q), irng_map]
  · rw [if_neg q]; trivial
theorem dr1 {n : Int} (h : a ρ = .ok (.int n)) : dRange1 a ρ = .ok (0, n) := by
  show (a ρ >>= fun x => match x with | .int n => (.ok (0, n) : Rs (Int × Int)) | _ => stuck) = _
  rw [h]; rfl
theorem dr2 {m n : Int} (h : a ρ = .ok (.int m)) (h' : b ρ = .ok (.int n)) : dRange2 a b ρ = .ok (m, n) := by
  show (a ρ >>= fun x => b ρ >>= fun y => match x, y with | .int m, .int n => (.ok (m, n) : Rs (Int × Int)) | _, _ => stuck) = _
  rw [h]
  show (b ρ >>= fun y => match PyData.int m, y with | .int m, .int n => (.ok (m, n) : Rs (Int × Int)) | _, _ => stuck) = _
  rw [h']; rfl
theorem zip_map (xs : List α) (ys : List β) : zipP (xs.map e) (ys.map e') = (xs.zip ys).map (eP2 e e') := by
  unfold zipP
  rw [List.zip_map, List.map_map]
  rfl
theorem zipT {xs : List α} {ys : List β} : zipD [.tuple (xs.map e), .tuple (ys.map e')] = .ok ((xs.zip ys).map (eP2 e e')) := by
  show (.ok (zipP _ _) : Rs (List PyData)) = _
  rw [zip_map]
theorem zipL {xs : List α} {ys : List β} : zipD [.list (xs.map e), .list (ys.map e')] = .ok ((xs.zip ys).map (eP2 e e')) := by
  show (.ok (zipP _ _) : Rs (List PyData)) = _
  rw [zip_map]
def enumT (xs : List α) : List (Int × α) := (List.range xs.length).zipWith (fun (i : Nat) x => ((i : Int), x)) xs
theorem enum_map (xs : List α) : enumP (xs.map e) = (enumT xs).map (eP2 eInt e) := by
  unfold enumP enumT
  rw [List.length_map, List.map_zipWith, List.zipWith_map_right]
theorem enT {xs : List α} : enumD [.tuple (xs.map e)] = .ok ((enumT xs).map (eP2 eInt e)) := by
  show (.ok (enumP _) : Rs (List PyData)) = _
  rw [enum_map]
theorem enL {xs : List α} : enumD [.list (xs.map e)] = .ok ((enumT xs).map (eP2 eInt e)) := by
  show (.ok (enumP _) : Rs (List PyData)) = _
  rw [enum_map]
def chars (xs : List Char) : List (List Char) := xs.map fun c => [c]
theorem items_str {xs : List Char} : itemsD (eStr xs) = .ok ((chars xs).map eStr) := by
  show (.ok ((xs.map Char.toNat).toArray.toList.map fun c => PyData.str ⟨#[c]⟩) : Rs (List PyData)) = _
  unfold chars
  simp
theorem enS {xs : List Char} : enumD [eStr xs] = .ok ((enumT (chars xs)).map (eP2 eInt eStr)) := by
  show (itemsD (eStr xs)).map enumP = _
  rw [items_str]
  show (.ok (enumP _) : Rs (List PyData)) = _
  rw [enum_map]
/-! ### looks at a value's kind -/
def Cst (c : PyData → Rs α) (e : α → PyData) : Prop := ∀ d, Rl e (.ok d) (c d)
def cInt : PyData → Rs Int
  | .int i => .ok i
  | _ => stuck
def cBool : PyData → Rs Bool
  | .bool i => .ok i
  | _ => stuck
def cNon : PyData → Rs Unit
  | .none => .ok ()
  | _ => stuck
def chL : List Nat → Rs (List Char)
  | [] => .ok []
  | n :: ns => if h : n.isValidChar then chL ns >>= fun cs => .ok (Char.ofNatAux n h :: cs) else stuck
def cStr : PyData → Rs (List Char)
  | .str z => chL z.cps.toList
  | _ => stuck
def cAny : PyData → Rs PyData := fun d => .ok d
def mapR (c : PyData → Rs α) : List PyData → Rs (List α)
  | [] => .ok []
  | d :: ds => c d >>= fun x => mapR c ds >>= fun xs => .ok (x :: xs)
def cTup (c : PyData → Rs α) : PyData → Rs (List α)
  | .tuple ds => mapR c ds
  | _ => stuck
def cLst (c : PyData → Rs α) : PyData → Rs (List α)
  | .list ds => mapR c ds
  | _ => stuck
def cOpt (c : PyData → Rs α) : PyData → Rs (Option α)
  | .none => .ok none
  | d => c d >>= fun x => .ok (some x)
def cP1 (c1 : PyData → Rs α) : PyData → Rs α
  | .tuple [a] => c1 a
  | _ => stuck
def cP2 (c1 : PyData → Rs α) (c2 : PyData → Rs β) : PyData → Rs (α × β)
  | .tuple [a, b] => c1 a >>= fun x => c2 b >>= fun y => .ok (x, y)
  | _ => stuck
def cP3 (c1 : PyData → Rs α) (c2 : PyData → Rs β) (c3 : PyData → Rs γ) : PyData → Rs (α × β × γ)
  | .tuple [a, b, c] => c1 a >>= fun x => c2 b >>= fun y => c3 c >>= fun z => .ok (x, y, z)
  | _ => stuck
def cP4 (c1 : PyData → Rs α) (c2 : PyData → Rs β) (c3 : PyData → Rs γ) (c4 : PyData → Rs δ) : PyData → Rs (α × β × γ × δ)
  | .tuple [a, b, c, d] => c1 a >>= fun x => c2 b >>= fun y => c3 c >>= fun z => c4 d >>= fun w => .ok (x, y, z, w)
  | _ => stuck
theorem rl_ok {x : α} {r : Rs α} {d : δ} {f : α → δ} (h : ∀ x, r = .ok x → d = f x) (q : ∀ n p, r ≠ .error (.exc n p)) : Rl f (.ok d) r := by
  cases r with
  | ok x => show _ = _; rw [h x rfl]
  | error er =>
    cases er with
    | stuck => trivial
    | exc n p => exact absurd rfl (q n p)
theorem ktInt : Cst cInt eInt := fun d => by cases d <;> first | rfl | trivial
theorem ktBool : Cst cBool eBool := fun d => by cases d <;> first | rfl | trivial
theorem ktNon : Cst cNon eNon := fun d => by cases d <;> first | rfl | trivial
theorem ktAny : Cst cAny eAny := fun d => rfl
theorem chL_rl : ∀ ns : List Nat, Rl (List.map Char.toNat) (.ok ns) (chL ns)
  | [] => rfl
  | n :: ns => by
    unfold chL
    split
    · rename_i h
      have ih := chL_rl ns
      cases hc : chL ns with
      | ok cs =>
        rw [hc] at ih
        have ih : (.ok ns : Rs (List Nat)) = .ok (cs.map Char.toNat) := ih
        injection ih with ih
        show (.ok (n :: ns) : Rs (List Nat)) = .ok (Char.toNat _ :: cs.map Char.toNat)
        rw [← ih]
        rfl
      | error er =>
        rw [hc] at ih
        cases er with
        | stuck => trivial
        | exc n p => cases (ih : (.ok ns : Rs (List Nat)) = _)
    · trivial
theorem ktStr : Cst cStr eStr := fun d => by
  cases d with
  | str z =>
    have h := chL_rl z.cps.toList
    show Rl eStr _ (chL z.cps.toList)
    cases hc : chL z.cps.toList with
    | ok cs =>
      rw [hc] at h
      have h : (.ok z.cps.toList : Rs (List Nat)) = .ok (cs.map Char.toNat) := h
      injection h with h
      show (.ok (.str z) : Rs PyData) = .ok (.str ⟨_⟩)
      rw [← h]
    | error er =>
      rw [hc] at h
      cases er with
      | stuck => trivial
      | exc n p => cases (h : (.ok _ : Rs (List Nat)) = _)
  | _ => trivial
theorem kt_bind {c : PyData → Rs α} (h : Cst c e) {d : PyData} {k : α → Rs β} {f : β → δ} {o : Rs δ} (g : ∀ x, d = e x → Rl f o (k x)) : Rl f o (c d >>= k) := by
  have := h d
  cases hc : c d with
  | ok x =>
    rw [hc] at this
    have this : (.ok d : Rs PyData) = .ok (e x) := this
    injection this with q
    exact g x q
  | error er =>
    rw [hc] at this
    cases er with
    | stuck => trivial
    | exc n p => cases (this : (.ok d : Rs PyData) = _)
theorem mapR_rl {c : PyData → Rs α} (h : Cst c e) : ∀ ds : List PyData, Rl (List.map e) (.ok ds) (mapR c ds)
  | [] => rfl
  | d :: ds => by
    unfold mapR
    refine kt_bind h fun x q => ?_
    have ih := mapR_rl h ds
    cases hc : mapR c ds with
    | ok xs =>
      rw [hc] at ih
      have ih : (.ok ds : Rs (List PyData)) = .ok (xs.map e) := ih
      injection ih with ih
      show (.ok (d :: ds) : Rs (List PyData)) = .ok (e x :: xs.map e)
      rw [q, ih]
    | error er =>
      rw [hc] at ih
      cases er with
      | stuck => trivial
      | exc n p => cases (ih : (.ok ds : Rs (List PyData)) = _)
theorem ktTup {c : PyData → Rs α} (h : Cst c e) : Cst (cTup c) (eTup e) := fun d => by
  cases d with
  | tuple ds =>
    have := mapR_rl h ds
    show Rl (eTup e) _ (mapR c ds)
    cases hc : mapR c ds with
    | ok xs =>
      rw [hc] at this
      have ih : (.ok ds : Rs (List PyData)) = .ok (xs.map e) := this
      injection ih with ih
      show (.ok (.tuple ds) : Rs PyData) = .ok (.tuple (xs.map e))
      rw [ih]
    | error er =>
      rw [hc] at this
      cases er with
      | stuck => trivial
      | exc n p => cases (this : (.ok ds : Rs (List PyData)) = _)
  | _ => trivial
theorem ktLst {c : PyData → Rs α} (h : Cst c e) : Cst (cLst c) (eLst e) := fun d => by
  cases d with
  | list ds =>
    have := mapR_rl h ds
    show Rl (eLst e) _ (mapR c ds)
    cases hc : mapR c ds with
    | ok xs =>
      rw [hc] at this
      have ih : (.ok ds : Rs (List PyData)) = .ok (xs.map e) := this
      injection ih with ih
      show (.ok (.list ds) : Rs PyData) = .ok (.list (xs.map e))
      rw [ih]
    | error er =>
      rw [hc] at this
      cases er with
      | stuck => trivial
      | exc n p => cases (this : (.ok ds : Rs (List PyData)) = _)
  | _ => trivial
theorem ktOpt {c : PyData → Rs α} (h : Cst c e) : Cst (cOpt c) (eOpt e) := fun d => by
  unfold cOpt
  split
  · rfl
  · refine kt_bind h fun x q => ?_
    rw [q]; rfl
theorem ktP1 {c1 : PyData → Rs α} (h1 : Cst c1 e) : Cst (cP1 c1) (eP1 e) := fun d => by
  unfold cP1
  split
  · rename_i a
    have := h1 a
    cases hc : c1 a with
    | ok x =>
      rw [hc] at this
      have this : (.ok a : Rs PyData) = .ok (e x) := this
      injection this with q
      rw [q]; rfl
    | error er =>
      rw [hc] at this
      cases er with
      | stuck => trivial
      | exc n p => cases (this : (.ok a : Rs PyData) = _)
  · trivial
theorem ktP2 {c1 : PyData → Rs α} {c2 : PyData → Rs β} (h1 : Cst c1 e) (h2 : Cst c2 e') : Cst (cP2 c1 c2) (eP2 e e') := fun d => by
  unfold cP2
  split
  · refine kt_bind h1 fun x q => kt_bind h2 fun y q2 => ?_
    rw [q, q2]; rfl
  · trivial
theorem ktP3 {e3 : γ → PyData} {c1 : PyData → Rs α} {c2 : PyData → Rs β} {c3 : PyData → Rs γ} (h1 : Cst c1 e) (h2 : Cst c2 e') (h3 : Cst c3 e3) : Cst (cP3 c1 c2 c3) (eP3 e e' e3) := fun d => by
  unfold cP3
  split
  · refine kt_bind h1 fun x q => kt_bind h2 fun y q2 => kt_bind h3 fun z q3 => ?_
    rw [q, q2, q3]; rfl
  · trivial
theorem ktP4 {e3 : γ → PyData} {e4 : δ → PyData} {c1 : PyData → Rs α} {c2 : PyData → Rs β} {c3 : PyData → Rs γ} {c4 : PyData → Rs δ} (h1 : Cst c1 e) (h2 : Cst c2 e') (h3 : Cst c3 e3) (h4 : Cst c4 e4) : Cst (cP4 c1 c2 c3 c4) (eP4 e e' e3 e4) := fun d => by
  unfold cP4
  split
  · refine kt_bind h1 fun x q => kt_bind h2 fun y q2 => kt_bind h3 fun z q3 => kt_bind h4 fun w q4 => ?_
    rw [q, q2, q3, q4]; rfl
  · trivial
theorem castR {c : PyData → Rs α} (hc : Cst c e) {v : PyData} (h : a ρ = .ok v) : Rl e (a ρ) (c v) := by
  rw [h]; exact hc v
/-- for the plain part -/
@[simp] theorem cInt_e (i : Int) : cInt (.int i) = .ok i := id rfl
@[simp] theorem cBool_e (i : Bool) : cBool (.bool i) = .ok i := id rfl
@[simp] theorem cAny_e (d : PyData) : cAny d = .ok d := id rfl
theorem chL_map : ∀ cs : List Char, chL (cs.map Char.toNat) = .ok cs
  | [] => rfl
  | c :: cs => by
    rw [List.map_cons, chL, dif_pos (show c.toNat.isValidChar from c.valid), chL_map cs]
    rfl
@[simp] theorem cStr_e (cs : List Char) : cStr (eStr cs) = .ok cs := by
  show chL (cs.map Char.toNat).toArray.toList = _
  simpa using chL_map cs
theorem mapR_map {c : PyData → Rs α} (h : ∀ x, c (e x) = .ok x) : ∀ xs : List α, mapR c (xs.map e) = .ok xs
  | [] => rfl
  | x :: xs => by rw [List.map_cons, mapR, h, mapR_map h xs]; rfl
theorem cTup_e {c : PyData → Rs α} (h : ∀ x, c (e x) = .ok x) (xs : List α) : cTup c (.tuple (xs.map e)) = .ok xs := mapR_map h xs
theorem cLst_e {c : PyData → Rs α} (h : ∀ x, c (e x) = .ok x) (xs : List α) : cLst c (.list (xs.map e)) = .ok xs := mapR_map h xs
/-! a value that is looked at: its kind -/
def narT (v : PyData) (f : List PyData → Rs β) (g : Rs β) : Rs β := match v with
  | .tuple vs => f vs
  | .dict _ => stuck
  | _ => g
def narI (v : PyData) (f : Int → Rs β) (f' : Bool → Rs β) (g : Rs β) : Rs β := match v with
  | .int i => f i
  | .bool k => f' k
  | .dict _ => stuck
  | _ => g
def narS (v : PyData) (f : List Char → Rs β) (g : Rs β) : Rs β := match v with
  | .str z => chL z.cps.toList >>= f
  | .dict _ => stuck
  | _ => g
def isD (n : String) (v : PyData) : Bool := isinstD n v
/-- none of the kind, no dict -/
def NoK (n : String) (v : PyData) : Prop := isiD n v = .ok (.bool false)
theorem nok_t {v : PyData} (h1 : ∀ vs, v ≠ .tuple vs) (h2 : ∀ kvs, v ≠ .dict kvs) : NoK "tuple" v := by
  unfold NoK
  cases v <;> first | rfl | exact absurd rfl (h1 _) | exact absurd rfl (h2 _)
theorem caseT {P : Rs Out → Rs β → Prop} {s : DS} {E : PyData → EnvD} {f : List PyData → Rs β} {g : Rs β} (K : KN P) (v : PyData) (h1 : ∀ vs, P (s (E (.tuple vs))) (f vs)) (h2 : ∀ w, NoK "tuple" w → P (s (E w)) g) : P (s (E v)) (narT v f g) := by
  cases v with
  | tuple vs => exact h1 vs
  | dict kvs => exact (K []).stk _
  | _ => exact h2 _ rfl
theorem caseTe {δ : Type} {e : β → δ} {s : EnvD → Rs δ} {E : PyData → EnvD} {f : List PyData → Rs β} {g : Rs β} (v : PyData) (h1 : ∀ vs, Rl e (s (E (.tuple vs))) (f vs)) (h2 : ∀ w, NoK "tuple" w → Rl e (s (E w)) g) : Rl e (s (E v)) (narT v f g) := by
  cases v with
  | tuple vs => exact h1 vs
  | dict kvs => trivial
  | _ => exact h2 _ rfl
theorem caseI {P : Rs Out → Rs β → Prop} {s : DS} {E : PyData → EnvD} {f : Int → Rs β} {f' : Bool → Rs β} {g : Rs β} (K : KN P) (v : PyData) (h1 : ∀ i, P (s (E (.int i))) (f i)) (h1' : ∀ k, P (s (E (.bool k))) (f' k)) (h2 : ∀ w, NoK "int" w → P (s (E w)) g) : P (s (E v)) (narI v f f' g) := by
  cases v with
  | int i => exact h1 i
  | bool k => exact h1' k
  | dict kvs => exact (K []).stk _
  | _ => exact h2 _ rfl
theorem caseIe {δ : Type} {e : β → δ} {s : EnvD → Rs δ} {E : PyData → EnvD} {f : Int → Rs β} {f' : Bool → Rs β} {g : Rs β} (v : PyData) (h1 : ∀ i, Rl e (s (E (.int i))) (f i)) (h1' : ∀ k, Rl e (s (E (.bool k))) (f' k)) (h2 : ∀ w, NoK "int" w → Rl e (s (E w)) g) : Rl e (s (E v)) (narI v f f' g) := by
  cases v with
  | int i => exact h1 i
  | bool k => exact h1' k
  | dict kvs => trivial
  | _ => exact h2 _ rfl
theorem strL_eq {z : Str} {cs : List Char} (h : chL z.cps.toList = .ok cs) : PyData.str z = eStr cs := by
  have := ktStr (.str z)
  rw [show cStr (.str z) = chL z.cps.toList from rfl, h] at this
  have this : (.ok (.str z) : Rs PyData) = .ok (eStr cs) := this
  injection this
theorem caseS {P : Rs Out → Rs β → Prop} {s : DS} {E : PyData → EnvD} {f : List Char → Rs β} {g : Rs β} (K : KN P) (v : PyData) (h1 : ∀ cs, P (s (E (eStr cs))) (f cs)) (h2 : ∀ w, NoK "str" w → P (s (E w)) g) : P (s (E v)) (narS v f g) := by
  cases v with
  | str z =>
    show P _ (chL z.cps.toList >>= f)
    cases hc : chL z.cps.toList with
    | ok cs => rw [strL_eq hc]; exact h1 cs
    | error er =>
      have := chL_rl z.cps.toList
      rw [hc] at this
      cases er with
      | stuck => exact (K []).stk _
      | exc n p => cases (this : (.ok _ : Rs (List Nat)) = _)
  | dict kvs => exact (K []).stk _
  | _ => exact h2 _ rfl
theorem caseSe {δ : Type} {e : β → δ} {s : EnvD → Rs δ} {E : PyData → EnvD} {f : List Char → Rs β} {g : Rs β} (v : PyData) (h1 : ∀ cs, Rl e (s (E (eStr cs))) (f cs)) (h2 : ∀ w, NoK "str" w → Rl e (s (E w)) g) : Rl e (s (E v)) (narS v f g) := by
  cases v with
  | str z =>
    show Rl e _ (chL z.cps.toList >>= f)
    cases hc : chL z.cps.toList with
    | ok cs => rw [strL_eq hc]; exact h1 cs
    | error er =>
      have := chL_rl z.cps.toList
      rw [hc] at this
      cases er with
      | stuck => trivial
      | exc n p => cases (this : (.ok _ : Rs (List Nat)) = _)
  | dict kvs => trivial
  | _ => exact h2 _ rfl
theorem isP {n : String} {v : PyData} {k : Bool} (h : a ρ = .ok v) (h' : isiD n v = .ok (.bool k)) : dIsi n a ρ = .ok (.bool k) := by
  show (a ρ >>= isiD n) = _
  rw [h]; exact h'
def isiG (n : String) (v : PyData) : Rs Bool := match v with
  | .dict _ => stuck
  | v => .ok (isinstD n v)
theorem isR {n : String} {v : PyData} (h : a ρ = .ok v) : Rl eBool (dIsi n a ρ) (isiG n v) := by
  show Rl eBool (a ρ >>= isiD n) _
  rw [h]
  cases v <;> first | rfl | trivial
/-- a tuple of whatever stands in it -/
theorem varT {i : Nat} {vs : List PyData} (h : ρ[i]? = some (.dat (.tuple vs))) : dVar i ρ = .ok (eTup eAny vs) := by
  unfold dVar
  rw [h]
  show (.ok (.tuple vs) : Rs PyData) = .ok (.tuple (vs.map fun d => d))
  rw [List.map_id']
theorem any_id (xs : List PyData) : xs.map eAny = xs := List.map_id' xs
/-! ### a def -/
theorem fn {ms : List Bool} {n : Nat} {bd : DS} {ds : List PyData} {e : α → PyData} {r : Rs α} (ρ0 : EnvD) (hl : ds.length = ms.length) (h0 : argsB ms ds ++ List.replicate (n - ms.length) .un = ρ0) (h : PF e (bd ρ0) r) : Rl e (fnD ms n bd ds) r := by
  unfold fnD
  rw [if_pos hl, h0]; exact h
/-- a value of a wider kind -/
theorem wid {o : Rs PyData} {x : α} {y : β} {e : α → PyData} {e' : β → PyData} (h : o = .ok (e x)) (q : e x = e' y) : o = .ok (e' y) := by rw [h, q]
theorem widM {o : Rs PyData} {m : Rs α} {e : α → PyData} {e' : β → PyData} {f : α → β} (h : Rl e o m) (q : ∀ x, e x = e' (f x)) : Rl e' o (m >>= fun x => .ok (f x)) := by
  cases m with
  | ok x =>
    have h : o = .ok (e x) := h
    rw [h, q]; rfl
  | error er =>
    cases er with
    | stuck => trivial
    | exc n p => exact h
theorem map_wid {e : α → PyData} {e' : β → PyData} {f : α → β} (q : ∀ x, e x = e' (f x)) (xs : List α) : xs.map e = (xs.map f).map e' := by
  rw [List.map_map]
  exact List.map_congr_left fun x _ => q x
theorem widT {e : α → PyData} {e' : β → PyData} {f : α → β} (q : ∀ x, e x = e' (f x)) (xs : List α) : eTup e xs = eTup e' (xs.map f) := congrArg PyData.tuple (map_wid q xs)
theorem widL {e : α → PyData} {e' : β → PyData} {f : α → β} (q : ∀ x, e x = e' (f x)) (xs : List α) : eLst e xs = eLst e' (xs.map f) := congrArg PyData.list (map_wid q xs)
theorem widO {e : α → PyData} {e' : β → PyData} {f : α → β} (q : ∀ x, e x = e' (f x)) (x : Option α) : eOpt e x = eOpt e' (x.map f) := by
  cases x with
  | none => rfl
  | some x => exact q x
end
end Ty

set_option Elab.async false
set_option linter.all false
set_option maxRecDepth 100000
set_option maxHeartbeats 4000000
namespace Ty
open PySem PySem.Spec PyProof.Rows L2 Den
section
variable {α β γ δ σ J : Type} {e : α → PyData} {e' : β → PyData} {ρ : EnvD} {a b : DE} {d : PyData}
theorem rl_map {e : α → δ} {o : Rs δ} {m : Rs α} (h : Rl e o m) {f : β → δ} {k : α → Rs β} (q : ∀ x, Rl f (.ok (e x)) (k x)) : Rl f o (m >>= k) := by
  cases m with
  | ok x =>
    have h : o = .ok (e x) := h
    rw [h]; exact q x
  | error er =>
    cases er with
    | stuck => trivial
    | exc n p => exact h
theorem castM {c : PyData → Rs α} {m : Rs PyData} (hc : Cst c e) (h : Rl eAny (a ρ) m) : Rl e (a ρ) (m >>= c) := rl_map h hc
/-- another look at an item that is known -/
def Cst2 (e : α → PyData) (e' : β → PyData) (c : α → Rs β) : Prop := ∀ x, Rl e' (.ok (e x)) (c x)
theorem castR2 {c : α → Rs β} {x : α} (hc : Cst2 e e' c) (h : a ρ = .ok (e x)) : Rl e' (a ρ) (c x) := by
  rw [h]; exact hc x
theorem castM2 {c : α → Rs β} {m : Rs α} (hc : Cst2 e e' c) (h : Rl e (a ρ) m) : Rl e' (a ρ) (m >>= c) := rl_map h hc
theorem Cst.two {c : PyData → Rs α} (h : Cst c e) : Cst2 eAny e c := h
def gP2 : List α → Rs (α × α)
  | [x, y] => .ok (x, y)
  | _ => stuck
def gP3 : List α → Rs (α × α × α)
  | [x, y, z] => .ok (x, y, z)
  | _ => stuck
theorem gkP2 (e : α → PyData) : Cst2 (eTup e) (eP2 e e) gP2 := fun x => by
  unfold gP2
  split
  · rfl
  · trivial
theorem gkP3 (e : α → PyData) : Cst2 (eTup e) (eP3 e e e) gP3 := fun x => by
  unfold gP3
  split
  · rfl
  · trivial
def mapR2 (c : α → Rs β) : List α → Rs (List β)
  | [] => .ok []
  | d :: ds => c d >>= fun x => mapR2 c ds >>= fun xs => .ok (x :: xs)
theorem mapR2_rl {c : α → Rs β} (hc : Cst2 e e' c) : ∀ xs : List α, Rl (List.map e') (.ok (xs.map e)) (mapR2 c xs)
  | [] => rfl
  | x :: xs => by
    unfold mapR2
    have h := hc x
    cases hcx : c x with
    | ok y =>
      rw [hcx] at h
      have h : (.ok (e x) : Rs PyData) = .ok (e' y) := h
      injection h with h
      have ih := mapR2_rl hc xs
      cases hm : mapR2 c xs with
      | ok ys =>
        rw [hm] at ih
        have ih : (.ok (xs.map e) : Rs (List PyData)) = .ok (ys.map e') := ih
        injection ih with ih
        show (.ok (e x :: xs.map e) : Rs (List PyData)) = .ok (e' y :: ys.map e')
        rw [h, ih]
      | error er =>
        rw [hm] at ih
        cases er with
        | stuck => trivial
        | exc n p => cases (ih : (.ok _ : Rs (List PyData)) = _)
    | error er =>
      rw [hcx] at h
      cases er with
      | stuck => trivial
      | exc n p => cases (h : (.ok _ : Rs PyData) = _)
theorem ktTup2 {c : α → Rs β} (hc : Cst2 e e' c) : Cst2 (eTup e) (eTup e') (mapR2 c) := fun xs => by
  have h := mapR2_rl hc xs
  cases hm : mapR2 c xs with
  | ok ys =>
    rw [hm] at h
    have h : (.ok (xs.map e) : Rs (List PyData)) = .ok (ys.map e') := h
    injection h with h
    show (.ok (.tuple (xs.map e)) : Rs PyData) = .ok (.tuple (ys.map e'))
    rw [h]
  | error er =>
    rw [hm] at h
    cases er with
    | stuck => trivial
    | exc n p => cases (h : (.ok _ : Rs (List PyData)) = _)
theorem ktLst2 {c : α → Rs β} (hc : Cst2 e e' c) : Cst2 (eLst e) (eLst e') (mapR2 c) := fun xs => by
  have h := mapR2_rl hc xs
  cases hm : mapR2 c xs with
  | ok ys =>
    rw [hm] at h
    have h : (.ok (xs.map e) : Rs (List PyData)) = .ok (ys.map e') := h
    injection h with h
    show (.ok (.list (xs.map e)) : Rs PyData) = .ok (.list (ys.map e'))
    rw [h]
  | error er =>
    rw [hm] at h
    cases er with
    | stuck => trivial
    | exc n p => cases (h : (.ok _ : Rs (List PyData)) = _)
def gO : Option α → Rs α
  | some x => .ok x
  | none => stuck
theorem gkO (e : α → PyData) : Cst2 (eOpt e) e gO := fun x => by
  cases x with
  | none => trivial
  | some x => rfl
theorem mapR2P {it : DL} {c : α → Rs β} {xs : List α} (hc : Cst2 e e' c) (h : it ρ = .ok (xs.map e)) : Rl (List.map e') (it ρ) (mapR2 c xs) := by
  rw [h]; exact mapR2_rl hc xs
theorem mapR2M {it : DL} {c : α → Rs β} {m : Rs (List α)} (hc : Cst2 e e' c) (h : Rl (List.map e) (it ρ) m) : Rl (List.map e') (it ρ) (m >>= mapR2 c) := rl_map h fun xs => mapR2_rl hc xs
theorem mapR2_ok {c : α → Rs β} {f : α → β} : ∀ {xs : List α}, (∀ x ∈ xs, c x = .ok (f x)) → mapR2 c xs = .ok (xs.map f)
  | [], _ => rfl
  | x :: xs, h => by
    rw [mapR2, h x (by simp), mapR2_ok (xs := xs) fun y hy => h y (by simp [hy])]; rfl
/-! targets -/
theorem tgN {i : Nat} : (Tg.nm i).d ρ d = .ok (ρ.set i (.dat d)) := by rw [Tg.d]
theorem tgP1 {t1 : Tg} {ρ1 : EnvD} {x : PyData} (h1 : t1.d ρ x = .ok ρ1) : (Tg.tp [t1]).d ρ (.tuple [x]) = .ok ρ1 := by
  rw [Tg.d, Tg.dsx, h1]
  show Tg.dsx [] ρ1 [] = _
  rw [Tg.dsx]
theorem tgP2 {t1 t2 : Tg} {ρ1 ρ2 : EnvD} {x y : PyData} (h1 : t1.d ρ x = .ok ρ1) (h2 : t2.d ρ1 y = .ok ρ2) : (Tg.tp [t1, t2]).d ρ (.tuple [x, y]) = .ok ρ2 := by
  rw [Tg.d, Tg.dsx, h1]
  show Tg.dsx [t2] ρ1 [y] = _
  rw [Tg.dsx, h2]
  show Tg.dsx [] ρ2 [] = _
  rw [Tg.dsx]
theorem tgP3 {t1 t2 t3 : Tg} {ρ1 ρ2 ρ3 : EnvD} {x y z : PyData} (h1 : t1.d ρ x = .ok ρ1) (h2 : t2.d ρ1 y = .ok ρ2) (h3 : t3.d ρ2 z = .ok ρ3) : (Tg.tp [t1, t2, t3]).d ρ (.tuple [x, y, z]) = .ok ρ3 := by
  rw [Tg.d, Tg.dsx, h1]
  show Tg.dsx [t2, t3] ρ1 [y, z] = _
  rw [Tg.dsx, h2]
  show Tg.dsx [t3] ρ2 [z] = _
  rw [Tg.dsx, h3]
  show Tg.dsx [] ρ3 [] = _
  rw [Tg.dsx]
theorem tgP4 {t1 t2 t3 t4 : Tg} {ρ1 ρ2 ρ3 ρ4 : EnvD} {x y z w : PyData} (h1 : t1.d ρ x = .ok ρ1) (h2 : t2.d ρ1 y = .ok ρ2) (h3 : t3.d ρ2 z = .ok ρ3) (h4 : t4.d ρ3 w = .ok ρ4) : (Tg.tp [t1, t2, t3, t4]).d ρ (.tuple [x, y, z, w]) = .ok ρ4 := by
  rw [Tg.d, Tg.dsx, h1]
  show Tg.dsx [t2, t3, t4] ρ1 [y, z, w] = _
  rw [Tg.dsx, h2]
  show Tg.dsx [t3, t4] ρ2 [z, w] = _
  rw [Tg.dsx, h3]
  show Tg.dsx [t4] ρ3 [w] = _
  rw [Tg.dsx, h4]
  show Tg.dsx [] ρ4 [] = _
  rw [Tg.dsx]
/-! texts -/
def cutSG (xs : List Char) (lo hi : Option Int) : Rs (List Char) := if xs.length ≤ 1000000 then .ok (Den.cutD xs lo hi) else stuck
theorem slS {xs : List Char} {lo hi : Option Int} : Rl eStr (slD (eStr xs) lo hi) (cutSG xs lo hi) := by
  unfold cutSG
  split
  · rename_i h
    show (if okLen _ = true then (.ok (.str (cutS ⟨(xs.map Char.toNat).toArray⟩ lo hi)) : Rs PyData) else stuck) = _
    rw [if_pos (okLenN (by simpa [Str.length] using h))]
    unfold cutS Str.length Den.cutD
    simp [List.map_take, List.map_drop]
  · trivial
def strIn (x y : List Char) : Bool := !(Builtin.Str.occurrences ⟨(y.map Char.toNat).toArray⟩ ⟨(x.map Char.toNat).toArray⟩ 0 (Str.length ⟨(y.map Char.toNat).toArray⟩) 1).isEmpty
theorem inS {x y : List Char} : inD (eStr x) (eStr y) = .ok (.bool (strIn x y)) := rfl
theorem ninS {x y : List Char} : notInD (eStr x) (eStr y) = .ok (.bool (!strIn x y)) := rfl
/-! one of a row of any kind -/
theorem inGXT {d : PyData} {ds : List PyData} : Rl eBool (inD d (eTup eAny ds)) (inG d ds) := by
  rw [show eTup eAny ds = .tuple ds from congrArg PyData.tuple (List.map_id' ds)]; exact inGT
theorem inGXL {d : PyData} {ds : List PyData} : Rl eBool (inD d (eLst eAny ds)) (inG d ds) := by
  rw [show eLst eAny ds = .list ds from congrArg PyData.list (List.map_id' ds)]; exact inGL
theorem consC {x y : PyData} {xs ys : List PyData} (h : x = y) (h' : xs = ys) : x :: xs = y :: ys := by rw [h, h']
/-! kinds -/
theorem isA {n : String} {ea : α → PyData} {m : Rs α} {r : α → Rs β} {e : β → PyData} (ha : Rl ea (a ρ) m) (h : ∀ x, Rl e (isiD n (ea x)) (r x)) : Rl e (dIsi n a ρ) (m >>= r) := Rl.bind ha h
theorem isV {n : String} (v : PyData) : Rl eBool (isiD n v) (isiG n v) := by cases v <;> first | rfl | trivial
theorem nok_ib {v : PyData} (h : NoK "int" v) : isiD "bool" v = .ok (.bool false) := by
  unfold NoK at h
  cases v with
  | bool b => cases h
  | _ => first | rfl | exact h
/-! sets of ints -/
theorem intsOf_map (xs : List Int) : intsOf (xs.map eInt) = some xs := Den.intsOf_map xs
def sortSetG (xs : List Int) : Rs (List Int) := if xs.length < 64 then .ok (sortU xs) else stuck
def lenSetG (xs : List Int) : Rs Int := if xs.length < 4000 then .ok (sortU xs).length else stuck
theorem ssR {xs : List Int} {d : PyData} (ha : a ρ = .ok d) (h : Rl (List.map eInt) (dSortSet (dLit d) ρ) (sortSetG xs)) : Rl (List.map eInt) (dSortSet a ρ) (sortSetG xs) := by
  have : dSortSet a ρ = dSortSet (dLit d) ρ := by
    unfold dSortSet
    rw [ha]; rfl
  rw [this]; exact h
theorem ssA {ea : α → PyData} {m : Rs α} {r : α → Rs (List Int)} (ha : Rl ea (a ρ) m) (h : ∀ x, Rl (List.map eInt) (dSortSet (dLit (ea x)) ρ) (r x)) : Rl (List.map eInt) (dSortSet a ρ) (m >>= r) := Rl.bind ha h
theorem sortSet_in {xs : List Int} {d : PyData} (h : intsIn d = some xs) : Rl (List.map eInt) (dSortSet (dLit d) ρ) (sortSetG xs) := by
  unfold sortSetG
  split
  · rename_i hl
    show (match intsIn d with | some ns => if ns.length < 64 then (.ok ((sortU ns).map .int) : Rs (List PyData)) else stuck | none => stuck) = _
    rw [h]
    show (if xs.length < 64 then (.ok ((sortU xs).map .int) : Rs (List PyData)) else stuck) = _
    rw [if_pos hl]
  · trivial
theorem sortSetL {xs : List Int} : Rl (List.map eInt) (dSortSet (dLit (eLst eInt xs)) ρ) (sortSetG xs) := sortSet_in (intsOf_map xs)
theorem sortSetT {xs : List Int} : Rl (List.map eInt) (dSortSet (dLit (eTup eInt xs)) ρ) (sortSetG xs) := sortSet_in (intsOf_map xs)
theorem lsR {xs : List Int} {d : PyData} (ha : a ρ = .ok d) (h : Rl eInt (dLenSet (dLit d) ρ) (lenSetG xs)) : Rl eInt (dLenSet a ρ) (lenSetG xs) := by
  have : dLenSet a ρ = dLenSet (dLit d) ρ := by
    unfold dLenSet
    rw [ha]; rfl
  rw [this]; exact h
theorem lsA {ea : α → PyData} {m : Rs α} {r : α → Rs Int} (ha : Rl ea (a ρ) m) (h : ∀ x, Rl eInt (dLenSet (dLit (ea x)) ρ) (r x)) : Rl eInt (dLenSet a ρ) (m >>= r) := Rl.bind ha h
theorem lenSet_in {xs : List Int} {d : PyData} (h : intsIn d = some xs) : Rl eInt (dLenSet (dLit d) ρ) (lenSetG xs) := by
  unfold lenSetG
  split
  · rename_i hl
    show (match intsIn d with | some ns => if ns.length < 4000 then (.ok (.int (sortU ns).length) : Rs PyData) else stuck | none => stuck) = _
    rw [h]
    show (if xs.length < 4000 then (.ok (.int (sortU xs).length) : Rs PyData) else stuck) = _
    rw [if_pos hl]
  · trivial
theorem lenSetL {xs : List Int} : Rl eInt (dLenSet (dLit (eLst eInt xs)) ρ) (lenSetG xs) := lenSet_in (intsOf_map xs)
theorem lenSetT {xs : List Int} : Rl eInt (dLenSet (dLit (eTup eInt xs)) ρ) (lenSetG xs) := lenSet_in (intsOf_map xs)
/-! an empty list of one's own; suites of clauses -/
theorem sqOwn0 {P : Rs Out → Rs β → Prop} {c : DL} {i : Nat} {rest : DS} {r : Rs β} (he : c ρ = .ok []) (h : P (rest (ρ.set i (.ol []))) r) : P (sSeq (sOwn i c) rest ρ) r := by
  have : sSeq (sOwn i c) rest ρ = rest (ρ.set i (.ol [])) := by
    show (match lift (c ρ) ρ _ with | .ok (.nx ρ') => rest ρ' | r => r) = _
    rw [he]; rfl
  rw [this]; exact h
def isiT (k : Option Bool) (p : Option (String × PyData)) (x y : γ) : Rs (Sg Unit γ) := match k, p with
  | some true, none => .ok (.ret x)
  | some false, none => .ok (.ret y)
  | _, _ => stuck
theorem hs_isi {ee : γ → PyData} {k : String → Option Bool} {x y : γ} {a b : DE} (ha : ∀ ρ, a ρ = .ok (ee x) := by intro _; rfl) (hb : ∀ ρ, b ρ = .ok (ee y) := by intro _; rfl) : ∀ n p ρ z, isiT (k n) p x y = .ok z → ∃ w, z = .ret w ∧ sIsi (k n) p a b ρ = .ok (.rt (ee w)) := by
  intro n p ρ z h
  unfold isiT at h
  unfold sIsi
  split at h
  · rename_i e1
    injection h with h
    refine ⟨x, h.symm, ?_⟩
    rw [e1]
    show lift (a ρ) ρ _ = _
    rw [ha]; rfl
  · rename_i e1
    injection h with h
    refine ⟨y, h.symm, ?_⟩
    rw [e1]
    show lift (b ρ) ρ _ = _
    rw [hb]; rfl
  · cases h
theorem hs_ret {ee : γ → PyData} {x : γ} {a : DE} (ha : ∀ ρ, a ρ = .ok (ee x) := by intro _; rfl) : ∀ (n : String) (p : Option (String × PyData)) (ρ : EnvD) (z : Sg Unit γ), (.ok (.ret x) : Rs (Sg Unit γ)) = .ok z → ∃ w, z = .ret w ∧ sRet a ρ = .ok (.rt (ee w)) := by
  intro n p ρ z h
  injection h with h
  refine ⟨x, h.symm, ?_⟩
  show lift (a ρ) ρ _ = _
  rw [ha]; rfl
end
/-! ### is_whole, ascends -/
def wholeG (d : PyData) (lo hi : Int) : Rs Bool := match d with
  | .dict _ => stuck
  | d => .ok (isWhole d lo hi)
theorem whole_rl (d : PyData) (lo hi : Int) : Rl eBool (fnD [false, false, false] 3 bdWhole [d, .int lo, .int hi]) (wholeG d lo hi) := by
  cases d with
  | dict kvs => trivial
  | _ => exact whole_eq _ lo hi
def wholeI (i lo hi : Int) : Bool := decide (lo ≤ i) && decide (i ≤ hi)
theorem wholeI_rl (i lo hi : Int) : fnD [false, false, false] 3 bdWhole [.int i, .int lo, .int hi] = .ok (.bool (wholeI i lo hi)) := whole_eq (.int i) lo hi
@[simp] theorem wholeG_i (i lo hi : Int) : wholeG (.int i) lo hi = .ok (decide (lo ≤ i) && decide (i ≤ hi)) := id rfl
@[simp] theorem wholeG_b (i : Bool) (lo hi : Int) : wholeG (.bool i) lo hi = .ok false := id rfl
@[simp] theorem wholeG_n (lo hi : Int) : wholeG .none lo hi = .ok false := id rfl
@[simp] theorem wholeG_s (x : Str) (lo hi : Int) : wholeG (.str x) lo hi = .ok false := id rfl
@[simp] theorem wholeG_l (x : List PyData) (lo hi : Int) : wholeG (.list x) lo hi = .ok false := id rfl
@[simp] theorem wholeG_t (x : List PyData) (lo hi : Int) : wholeG (.tuple x) lo hi = .ok false := id rfl
end Ty

set_option Elab.async false
set_option linter.all false
set_option maxRecDepth 100000
set_option maxHeartbeats 4000000
namespace Ty
open PySem PySem.Spec PyProof.Rows L2 Den
/-! ### dicts: rows of keys and values, in their order -/
section
variable {κ κ1 κ2 κ3 κ4 ν α β γ : Type}
def kvE (ek : κ → PyData) (ev : ν → PyData) (p : κ × ν) : PyData × PyData := (ek p.1, ev p.2)
def eDct (ek : κ → PyData) (ev : ν → PyData) (m : List (κ × ν)) : PyData := .dict (m.map (kvE ek ev))
def getT [DecidableEq κ] (m : List (κ × ν)) (k : κ) : Option ν := (m.find? fun p => decide (p.1 = k)).map (·.2)
def putT [DecidableEq κ] (m : List (κ × ν)) (k : κ) (v : ν) : List (κ × ν) := if (getT m k).isSome then m.map (fun p => if p.1 = k then (p.1, v) else p) else m ++ [(k, v)]
def hasT [DecidableEq κ] (m : List (κ × ν)) (k : κ) : Bool := (getT m k).isSome
@[irreducible] def putG [DecidableEq κ] (m : List (κ × ν)) (k : κ) (v : ν) : Rs (List (κ × ν)) := if m.length < sizeLine then .ok (putT m k v) else stuck
def atG [DecidableEq κ] (m : List (κ × ν)) (k : κ) : Rs ν := match getT m k with
  | some v => .ok v
  | none => stuck
/-- keys that can be told from one another -/
structure KyE [DecidableEq κ] (e : κ → PyData) : Prop where
  eq : ∀ a b, keq (e a) (e b) = decide (a = b)
  ok : (∀ a, keyT (e a) = true) ∨ ∀ a, (isK (e a)).isSome = true
structure KbE [DecidableEq κ] (e : κ → PyData) (n : Nat) : Prop where
  kb : ∀ a, keyB (e a) = true
  dep : ∀ a, (toK (e a)).depth ≤ n
  eq : ∀ a b, NestedKey.beq (toK (e a)) (toK (e b)) = decide (a = b)
theorem kyInt : KyE eInt := ⟨fun a b => rfl, .inr fun _ => rfl⟩
theorem str_inj {a b : List Char} : ((⟨(a.map Char.toNat).toArray⟩ : Str) = ⟨(b.map Char.toNat).toArray⟩) ↔ a = b := by
  constructor
  · intro h
    simp only [Str.mk.injEq] at h
    exact toNat_inj (by simpa using congrArg Array.toList h)
  · rintro rfl; rfl
theorem eStr_inj {a b : List Char} (h : eStr a = eStr b) : a = b := eqStr.inj h
theorem kyStr : KyE eStr := ⟨fun a b => by
  show decide (_ = _) = _
  refine decide_eq_decide.mpr ⟨fun h => eStr_inj (congrArg PyData.str h), fun h => by rw [h]⟩, .inr fun _ => rfl⟩
theorem kbInt : KbE eInt 0 := ⟨fun _ => rfl, fun _ => Nat.le_refl _, fun a b => rfl⟩
theorem kbStr : KbE eStr 0 := ⟨fun _ => rfl, fun _ => Nat.le_refl _, kyStr.eq⟩
theorem kbNon : KbE eNon 0 := ⟨fun _ => rfl, fun _ => Nat.le_refl _, fun a b => rfl⟩
variable [DecidableEq κ] [DecidableEq κ1] [DecidableEq κ2] [DecidableEq κ3] [DecidableEq κ4] {e : κ → PyData} {e1 : κ1 → PyData} {e2 : κ2 → PyData} {e3 : κ3 → PyData} {e4 : κ4 → PyData} {n : Nat}
theorem KbE.mono {m : Nat} (h : KbE e n) (hm : n ≤ m) : KbE e m := ⟨h.kb, fun a => Nat.le_trans (h.dep a) hm, h.eq⟩
theorem kbs_all (h : KbE e n) : ∀ xs : List κ, keyBs (xs.map e) = true
  | [] => rfl
  | x :: xs => by rw [List.map_cons, keyBs, h.kb, kbs_all h xs]; rfl
theorem kdep_all (h : KbE e n) : ∀ xs : List κ, NestedKey.depthAll (toKs (xs.map e)) ≤ n
  | [] => Nat.zero_le _
  | x :: xs => by
    rw [List.map_cons, toKs, NestedKey.depthAll]
    exact Nat.max_le.mpr ⟨h.dep x, kdep_all h xs⟩
theorem keq_all (h : KbE e n) : ∀ xs ys : List κ, NestedKey.beqAll (toKs (xs.map e)) (toKs (ys.map e)) = decide (xs = ys)
  | [], [] => rfl
  | [], _ :: _ => rfl
  | _ :: _, [] => rfl
  | x :: xs, y :: ys => by
    rw [List.map_cons, List.map_cons, toKs, toKs, NestedKey.beqAll, h.eq, keq_all h xs ys, ← Bool.decide_and]
    exact decide_eq_decide.mpr (by simp)
theorem kbTup (h : KbE e n) : KbE (eTup e) (n + 1) := ⟨fun xs => kbs_all h xs, fun xs => Nat.succ_le_succ (kdep_all h xs), fun xs ys => keq_all h xs ys⟩
theorem kbP1 (h : KbE e n) : KbE (eP1 e) (n + 1) := ⟨fun a => by
  show (keyB (e a) && true) = true
  rw [h.kb]; rfl, fun a => Nat.succ_le_succ (Nat.max_le.mpr ⟨h.dep a, Nat.zero_le _⟩), fun a b => by
  show (NestedKey.beq (toK (e a)) (toK (e b)) && true) = _
  rw [h.eq, Bool.and_true]⟩
theorem kbP2 (h1 : KbE e1 n) (h2 : KbE e2 n) : KbE (eP2 e1 e2) (n + 1) := ⟨fun a => by
  show (keyB (e1 a.1) && (keyB (e2 a.2) && true)) = true
  rw [h1.kb, h2.kb]; rfl, fun a => Nat.succ_le_succ (Nat.max_le.mpr ⟨h1.dep _, Nat.max_le.mpr ⟨h2.dep _, Nat.zero_le _⟩⟩), fun a b => by
  show (NestedKey.beq (toK (e1 a.1)) (toK (e1 b.1)) && (NestedKey.beq (toK (e2 a.2)) (toK (e2 b.2)) && true)) = _
  rw [h1.eq, h2.eq, Bool.and_true, ← Bool.decide_and]
  exact decide_eq_decide.mpr (by rw [Prod.ext_iff])⟩
theorem kbP3 (h1 : KbE e1 n) (h2 : KbE e2 n) (h3 : KbE e3 n) : KbE (eP3 e1 e2 e3) (n + 1) := ⟨fun a => by
  show (keyB (e1 a.1) && (keyB (e2 a.2.1) && (keyB (e3 a.2.2) && true))) = true
  rw [h1.kb, h2.kb, h3.kb]; rfl, fun a => Nat.succ_le_succ (Nat.max_le.mpr ⟨h1.dep _, Nat.max_le.mpr ⟨h2.dep _, Nat.max_le.mpr ⟨h3.dep _, Nat.zero_le _⟩⟩⟩), fun a b => by
  show (NestedKey.beq (toK (e1 a.1)) (toK (e1 b.1)) && (NestedKey.beq (toK (e2 a.2.1)) (toK (e2 b.2.1)) && (NestedKey.beq (toK (e3 a.2.2)) (toK (e3 b.2.2)) && true))) = _
  rw [h1.eq, h2.eq, h3.eq, Bool.and_true, ← Bool.decide_and, ← Bool.decide_and]
  exact decide_eq_decide.mpr (by simp only [Prod.ext_iff])⟩
theorem kbP4 (h1 : KbE e1 n) (h2 : KbE e2 n) (h3 : KbE e3 n) (h4 : KbE e4 n) : KbE (eP4 e1 e2 e3 e4) (n + 1) := ⟨fun a => by
  show (keyB (e1 a.1) && (keyB (e2 a.2.1) && (keyB (e3 a.2.2.1) && (keyB (e4 a.2.2.2) && true)))) = true
  rw [h1.kb, h2.kb, h3.kb, h4.kb]; rfl, fun a => Nat.succ_le_succ (Nat.max_le.mpr ⟨h1.dep _, Nat.max_le.mpr ⟨h2.dep _, Nat.max_le.mpr ⟨h3.dep _, Nat.max_le.mpr ⟨h4.dep _, Nat.zero_le _⟩⟩⟩⟩), fun a b => by
  show (NestedKey.beq (toK (e1 a.1)) (toK (e1 b.1)) && (NestedKey.beq (toK (e2 a.2.1)) (toK (e2 b.2.1)) && (NestedKey.beq (toK (e3 a.2.2.1)) (toK (e3 b.2.2.1)) && (NestedKey.beq (toK (e4 a.2.2.2)) (toK (e4 b.2.2.2)) && true)))) = _
  rw [h1.eq, h2.eq, h3.eq, h4.eq, Bool.and_true, ← Bool.decide_and, ← Bool.decide_and, ← Bool.decide_and]
  exact decide_eq_decide.mpr (by simp only [Prod.ext_iff])⟩
theorem ky_of {e : κ → PyData} (h : KbE e n) (hn : n ≤ 8) (ht : ∀ a, tupB (e a) = true) : KyE e := ⟨h.eq, .inl fun a => by
  unfold keyT
  rw [ht, h.kb, decide_eq_true (Nat.le_trans (h.dep a) hn)]; rfl⟩
theorem kyTup (h : KbE e n) (hn : n + 1 ≤ 8 := by decide) : KyE (eTup e) := ky_of (kbTup h) hn fun _ => rfl
theorem kyP1 (h : KbE e n) (hn : n + 1 ≤ 8 := by decide) : KyE (eP1 e) := ky_of (kbP1 h) hn fun _ => rfl
theorem kyP2 (h1 : KbE e1 n) (h2 : KbE e2 n) (hn : n + 1 ≤ 8 := by decide) : KyE (eP2 e1 e2) := ky_of (kbP2 h1 h2) hn fun _ => rfl
theorem kyP3 (h1 : KbE e1 n) (h2 : KbE e2 n) (h3 : KbE e3 n) (hn : n + 1 ≤ 8 := by decide) : KyE (eP3 e1 e2 e3) := ky_of (kbP3 h1 h2 h3) hn fun _ => rfl
theorem kyP4 (h1 : KbE e1 n) (h2 : KbE e2 n) (h3 : KbE e3 n) (h4 : KbE e4 n) (hn : n + 1 ≤ 8 := by decide) : KyE (eP4 e1 e2 e3 e4) := ky_of (kbP4 h1 h2 h3 h4) hn fun _ => rfl
variable {ek : κ → PyData} {ev : ν → PyData}
theorem okKey_ky (h : KyE ek) (m : List (κ × ν)) (k : κ) : okKey (m.map (kvE ek ev)) (ek k) = true := by
  unfold okKey
  rw [Bool.or_eq_true, Bool.and_eq_true, Bool.and_eq_true, List.all_map, List.all_map, List.all_eq_true, List.all_eq_true]
  rcases h.ok with h | h
  · exact .inl ⟨h k, fun p _ => h p.1⟩
  · exact .inr ⟨h k, fun p _ => h p.1⟩
theorem dGet_ky (h : KyE ek) (m : List (κ × ν)) (k : κ) : dGet (m.map (kvE ek ev)) (ek k) = (getT m k).map ev := by
  unfold dGet getT
  rw [List.find?_map]
  have : ((fun p => keq p.1 (ek k)) ∘ kvE ek ev) = fun p : κ × ν => decide (p.1 = k) := funext fun p => h.eq p.1 k
  rw [this, Option.map_map, Option.map_map]
  rfl
theorem dPut_ky (h : KyE ek) (m : List (κ × ν)) (k : κ) (v : ν) : dPut (m.map (kvE ek ev)) (ek k) (ev v) = (putT m k v).map (kvE ek ev) := by
  unfold dPut putT
  rw [dGet_ky h, Option.isSome_map]
  by_cases c : (getT m k).isSome = true
  · rw [if_pos c, if_pos c, List.map_map, List.map_map]
    refine List.map_congr_left fun p _ => ?_
    show (if keq (ek p.1) (ek k) = true then _ else _) = kvE ek ev (if p.1 = k then _ else _)
    rw [h.eq]
    by_cases q : p.1 = k
    · rw [if_pos (decide_eq_true q), if_pos q]; rfl
    · rw [if_neg (by rw [decide_eq_false q]; decide), if_neg q]
  · rw [if_neg c, if_neg c, List.map_append]; rfl
/-! reads -/
variable {m : List (κ × ν)} {k : κ} {ρ : EnvD} {a b c : DE}
theorem inEd (h : KyE ek) : inE (ek k) (eDct ek ev m) = .ok (.bool (hasT m k)) := by
  show (if okKey _ _ then _ else _) = _
  rw [if_pos (okKey_ky h m k), dGet_ky h, Option.isSome_map]; rfl
theorem ninEd (h : KyE ek) : notInE (ek k) (eDct ek ev m) = .ok (.bool (!hasT m k)) := by
  show (if okKey _ _ then _ else _) = _
  rw [if_pos (okKey_ky h m k), dGet_ky h, Option.isSome_map]; rfl
theorem ixEd (h : KyE ek) : Rl ev (ixE (eDct ek ev m) (ek k)) (atG m k) := by
  unfold atG
  cases q : getT m k with
  | none => exact True.intro
  | some v =>
    show ixE (.dict _) _ = _
    simp only [ixE]
    rw [okKey_ky h m k, dGet_ky h, q]; rfl
theorem lenEd : lenE [eDct ek ev m] = .ok (eInt (m.length : Int)) := by
  show (.ok (.int ((m.map (kvE ek ev)).length : Int)) : Rs PyData) = _
  rw [List.length_map]
theorem get1R (h : KyE ek) {mk : Rs κ} (ha : a ρ = .ok (eDct ek ev m)) (hb : Rl ek (b ρ) mk) : Rl (eOpt ev) (dGet1 a b ρ) (mk >>= fun k => .ok (getT m k)) := by
  unfold dGet1
  refine Rl.bindP ha (Rl.bindP (v := m.map (kvE ek ev)) rfl (Rl.bind hb fun k => ?_))
  show get1F _ _ = _
  unfold get1F
  rw [if_pos (okKey_ky h m k), dGet_ky h]
  cases getT m k <;> rfl
theorem get2R (h : KyE ek) {mk : Rs κ} {mc : Rs ν} (ha : a ρ = .ok (eDct ek ev m)) (hb : Rl ek (b ρ) mk) (hc : Rl ev (c ρ) mc) : Rl ev (dGet2 a b c ρ) (mk >>= fun k => mc >>= fun y => .ok ((getT m k).getD y)) := by
  unfold dGet2
  refine Rl.bindP ha (Rl.bindP (v := m.map (kvE ek ev)) rfl (Rl.bind hb fun k => Rl.bind hc fun y => ?_))
  show get2F _ _ _ = _
  unfold get2F
  rw [if_pos (okKey_ky h m k), dGet_ky h]
  cases getT m k <;> rfl
/-! sorted(d), sorted(t); the keys in a row -/
theorem nlInt : ∀ i, nlB (eInt i) = true := fun _ => rfl
theorem nlStr : ∀ i, nlB (eStr i) = true := fun _ => rfl
theorem nlBool : ∀ i, nlB (eBool i) = true := fun _ => rfl
theorem nls_map {e : α → PyData} (h : ∀ a, nlB (e a) = true) : ∀ xs : List α, nlBs (xs.map e) = true
  | [] => rfl
  | x :: xs => by rw [List.map_cons, nlBs, h, nls_map h xs]; rfl
theorem nlTup {e : α → PyData} (h : ∀ a, nlB (e a) = true) : ∀ a, nlB (eTup e a) = true := fun xs => nls_map h xs
theorem nlP1 {e1 : α → PyData} (h1 : ∀ a, nlB (e1 a) = true) : ∀ a, nlB (eP1 e1 a) = true := fun a => by
  show (nlB (e1 a) && true) = true
  rw [h1]; rfl
theorem nlP2 {e1 : α → PyData} {e2 : β → PyData} (h1 : ∀ a, nlB (e1 a) = true) (h2 : ∀ a, nlB (e2 a) = true) : ∀ a, nlB (eP2 e1 e2 a) = true := fun a => by
  show (nlB (e1 a.1) && (nlB (e2 a.2) && true)) = true
  rw [h1, h2]; rfl
theorem nlP3 {e1 : α → PyData} {e2 : β → PyData} {e3 : γ → PyData} (h1 : ∀ a, nlB (e1 a) = true) (h2 : ∀ a, nlB (e2 a) = true) (h3 : ∀ a, nlB (e3 a) = true) : ∀ a, nlB (eP3 e1 e2 e3 a) = true := fun a => by
  show (nlB (e1 a.1) && (nlB (e2 a.2.1) && (nlB (e3 a.2.2) && true))) = true
  rw [h1, h2, h3]; rfl
theorem sortOk_of {e : κ → PyData} {lt : κ → κ → Bool} (h : LtE e n lt) (hs : SoE e) (nl : ∀ a, nlB (e a) = true) (xs : List κ) (hn : n ≤ 64) : sortOk (xs.map e) = true := by
  have q := sortR h hs (xs := xs) hn
  have q : (if alikeB (xs.map e) && sortB (xs.map e) && (xs.map e).all (fun d => decide (d.depth ≤ 64)) then _ else _ : Rs (List PyData)) = _ := q
  split at q
  · rename_i c
    rw [Bool.and_eq_true] at c
    unfold sortOk
    rw [c.1, c.2, nls_map nl]; rfl
  · cases q
theorem sortTp {e : κ → PyData} {lt : κ → κ → Bool} (h : LtE e n lt) (hs : SoE e) (nl : ∀ a, nlB (e a) = true) {xs : List κ} (hn : n ≤ 64 := by decide) : sortedE [.tuple (xs.map e)] = .ok ((sortT lt xs).map e) := by
  show (if sortOk (xs.map e) then _ else _) = _
  rw [if_pos (sortOk_of h hs nl xs hn), sort_map h.lt]
theorem keys_map : (m.map (kvE ek ev)).map (·.1) = (m.map (·.1)).map ek := by
  rw [List.map_map, List.map_map]; rfl
theorem sortDc {lt : κ → κ → Bool} (h : LtE ek n lt) (hs : SoE ek) (nl : ∀ a, nlB (ek a) = true) (hn : n ≤ 64 := by decide) : sortedE [eDct ek ev m] = .ok ((sortT lt (m.map (·.1))).map ek) := by
  show (if sortOk ((m.map (kvE ek ev)).map (·.1)) then (.ok (((m.map (kvE ek ev)).map (·.1)).mergeSort (PySem.W.dataLe false id)) : Rs (List PyData)) else stuck) = _
  rw [keys_map]
  exact sortTp h hs nl hn
theorem itE (h : a ρ = .ok (eDct ek ev m)) : iE a ρ = .ok ((m.map (·.1)).map ek) := by
  unfold iE
  rw [h]
  show (.ok ((m.map (kvE ek ev)).map (·.1)) : Rs (List PyData)) = _
  rw [keys_map]
theorem itEA {e : α → PyData} {mm : Rs (List (κ × ν))} {r : List (κ × ν) → Rs (List α)} (h : Rl (eDct ek ev) (a ρ) mm) (hr : ∀ m, Rl (List.map e) (itemsE (eDct ek ev m)) (r m)) : Rl (List.map e) (iE a ρ) (mm >>= r) := Rl.bind h hr
theorem itEk : itemsE (eDct ek ev m) = .ok ((m.map (·.1)).map ek) := congrArg Except.ok keys_map
/-! {k: v for ..} -/
structure KkE (ek : κ → PyData) (kk : κ → Key) : Prop where
  key : ∀ a, keyD (ek a) = some (kk a)
  un : ∀ a, unKey (kk a) = ek a
  inj : ∀ a b, kk a = kk b → a = b
theorem kkInt : KkE eInt .inl := ⟨fun _ => rfl, fun _ => rfl, fun _ _ h => by cases h; rfl⟩
def kStr (x : List Char) : Key := .inr ⟨(x.map Char.toNat).toArray⟩
theorem kkStr : KkE eStr kStr := ⟨fun _ => rfl, fun _ => rfl, fun a b h => eStr_inj (a := a) (b := b) (congrArg unKey h)⟩
def oneD (t : Tg) (tt : DT) (dk dv : DE) (ρ : EnvD) (d : PyData) : Rs (Option (PyData × PyData)) := t.d ρ d >>= fun ρ1 => tt ρ1 >>= fun b => if b then dk ρ1 >>= fun y => dv ρ1 >>= fun z => .ok (some (y, z)) else .ok none
def dcM (f : α → Rs (Option (κ × ν))) : List (κ × ν) → List α → Rs (List (κ × ν))
  | acc, [] => .ok acc
  | acc, x :: xs => f x >>= fun o => match o with
    | some p => putG acc p.1 p.2 >>= fun acc' => dcM f acc' xs
    | none => dcM f acc xs
def dcG (xs : List α) (f : α → Rs (Option (κ × ν))) : Rs (List (κ × ν)) := noExc (dcM f [] xs)
variable {t : Tg} {tt : DT} {dk dv : DE} {it : DL} {vs : List Nat} {ei : α → PyData} {kk : κ → Key}
theorem compD_step {acc : List (Key × PyData)} {ds : List PyData} {d : PyData} : compD t tt dk dv ρ acc (d :: ds) = (oneD t tt dk dv ρ d >>= fun o => match o with
    | some p => (match keyD p.1 with
      | some k => if acc.length < sizeLine then compD t tt dk dv ρ (putD acc k p.2) ds else stuck
      | none => stuck)
    | none => compD t tt dk dv ρ acc ds) := by
  rw [compD]
  unfold oneD
  cases t.d ρ d with
  | error er => rfl
  | ok ρ1 =>
    show (tt ρ1 >>= _) = ((tt ρ1 >>= _) >>= _)
    cases tt ρ1 with
    | error er => rfl
    | ok b =>
      cases b with
      | false => rfl
      | true =>
        show (dk ρ1 >>= _) = ((dk ρ1 >>= _) >>= _)
        cases dk ρ1 with
        | error er => rfl
        | ok y =>
          show (dv ρ1 >>= _) = ((dv ρ1 >>= _) >>= _)
          cases dv ρ1 <;> rfl
def kkE (kk : κ → Key) (ev : ν → PyData) (p : κ × ν) : Key × PyData := (kk p.1, ev p.2)
theorem any_get (h : KkE ek kk) (m : List (κ × ν)) (k : κ) : ((m.map (kkE kk ev)).any fun kv => decide (kv.1 = kk k)) = (getT m k).isSome := by
  unfold getT
  rw [Option.isSome_map, List.any_map]
  induction m with
  | nil => rfl
  | cons p m ih =>
    rw [List.any_cons, List.find?_cons, ih]
    show (decide (kk p.1 = kk k) || _) = _
    by_cases q : p.1 = k
    · rw [decide_eq_true q, decide_eq_true (congrArg kk q)]; rfl
    · rw [decide_eq_false q, decide_eq_false fun z => q (h.inj _ _ z)]; rfl
theorem putD_kk (h : KkE ek kk) (m : List (κ × ν)) (k : κ) (v : ν) : putD (m.map (kkE kk ev)) (kk k) (ev v) = (putT m k v).map (kkE kk ev) := by
  unfold putD putT
  rw [any_get h]
  by_cases c : (getT m k).isSome = true
  · rw [if_pos c, if_pos c, List.map_map, List.map_map]
    refine List.map_congr_left fun p _ => ?_
    show (if kk p.1 = kk k then _ else _) = kkE kk ev (if p.1 = k then _ else _)
    by_cases q : p.1 = k
    · rw [if_pos (congrArg kk q), if_pos q]; rfl
    · rw [if_neg fun z => q (h.inj _ _ z), if_neg q]
  · rw [if_neg c, if_neg c, List.map_append]; rfl
theorem dcM_rl (h : KkE ek kk) {f : α → Rs (Option (κ × ν))} : ∀ (xs : List α) (acc : List (κ × ν)), (∀ x, Rl (Option.map (kvE ek ev)) (oneD t tt dk dv ρ (ei x)) (f x)) → Rl (List.map (kkE kk ev)) (compD t tt dk dv ρ (acc.map (kkE kk ev)) (xs.map ei)) (dcM f acc xs)
  | [], _, _ => rfl
  | x :: xs, acc, hf => by
    rw [List.map_cons, compD_step, dcM]
    refine Rl.bind (hf x) fun o => ?_
    cases o with
    | none => exact dcM_rl h xs acc hf
    | some p =>
      show Rl _ (match keyD (ek p.1) with | some k => _ | none => _) (putG acc p.1 p.2 >>= _)
      rw [h.key]
      show Rl _ (if _ then _ else _) _
      rw [List.length_map]
      unfold putG
      by_cases c : acc.length < sizeLine
      · rw [if_pos c, if_pos c]
        show Rl _ (compD _ _ _ _ _ (putD _ (kk p.1) (ev p.2)) _) _
        rw [putD_kk h]
        exact dcM_rl h xs _ hf
      · rw [if_neg c, if_neg c]; exact True.intro
theorem unKV_map (h : KkE ek kk) (m : List (κ × ν)) : (m.map (kkE kk ev)).map unKV = m.map (kvE ek ev) := by
  rw [List.map_map]
  refine List.map_congr_left fun p _ => ?_
  show (unKey (kk p.1), ev p.2) = _
  rw [h.un]; rfl
theorem dc_rl (h : KkE ek kk) {xs : List α} {f : α → Rs (Option (κ × ν))} (hi : it ρ = .ok (xs.map ei)) (hw : t.within vs = true) (hf : ∀ x, Rl (Option.map (kvE ek ev)) (oneD t tt dk dv (wipeD ρ vs) (ei x)) (f x)) : Rl (List.map (kkE kk ev)) (dDc it vs t tt dk dv ρ) (dcG xs f) := by
  unfold dDc
  refine Rl.bindP hi ?_
  rw [if_pos hw]
  exact Rl.noExc (dcM_rl h xs [] hf)
theorem map_ok {δ δ' ε : Type} {e : δ → δ'} {o : Rs δ'} {r : Rs δ} {g : δ' → ε} {e' : δ → ε} (h : Rl e o r) (q : ∀ x, g (e x) = e' x) : Rl e' (o >>= fun x => .ok (g x)) r := by
  cases r with
  | ok x =>
    have h : o = .ok (e x) := h
    rw [h]
    exact congrArg Except.ok (q x)
  | error er =>
    cases er with
    | stuck => exact True.intro
    | exc n p =>
      have h : o = .error (.exc n p) := h
      rw [h]; rfl
theorem dcR (h : KkE ek kk) {xs : List α} {f : α → Rs (Option (κ × ν))} (hi : it ρ = .ok (xs.map ei)) (hw : t.within vs = true) (hf : ∀ x, Rl (Option.map (kvE ek ev)) (oneD t tt dk dv (wipeD ρ vs) (ei x)) (f x)) : Rl (eDct ek ev) (dDv (dDc it vs t tt dk dv) ρ) (dcG xs f) :=
  map_ok (dc_rl h hi hw hf) fun m => congrArg PyData.dict (unKV_map h m)
theorem dcA {mm : Rs (List α)} {r : List α → Rs (List (κ × ν))} (hi : Rl (List.map ei) (it ρ) mm) (h : ∀ xs, Rl (eDct ek ev) (dDv (dDc (fun _ => .ok (xs.map ei)) vs t tt dk dv) ρ) (r xs)) : Rl (eDct ek ev) (dDv (dDc it vs t tt dk dv) ρ) (mm >>= r) := by
  have : dDv (dDc it vs t tt dk dv) ρ = (it ρ >>= fun ds => dDv (dDc (fun _ => .ok ds) vs t tt dk dv) ρ) := by
    show ((it ρ >>= _) >>= _) = _
    cases it ρ <;> rfl
  rw [this]
  exact Rl.bind hi h
theorem dcLen (h : KkE ek kk) {xs : List α} {f : α → Rs (Option (κ × ν))} (hi : it ρ = .ok (xs.map ei)) (hw : t.within vs = true) (hf : ∀ x, Rl (Option.map (kvE ek ev)) (oneD t tt dk dv (wipeD ρ vs) (ei x)) (f x)) : Rl eInt (dLenDc (dDc it vs t tt dk dv) ρ) (dcG xs f >>= fun m => .ok (m.length : Int)) :=
  Rl.bind (dc_rl h hi hw hf) fun m => by
    show (.ok (.int ((m.map (kkE kk ev)).length : Int)) : Rs PyData) = _
    rw [List.length_map]
theorem oneD_R {ρ1 : EnvD} {d : PyData} {mk : Rs κ} {mv : Rs ν} (ht : t.d ρ d = .ok ρ1) (hk : Rl ek (dk ρ1) mk) (hv : Rl ev (dv ρ1) mv) : Rl (Option.map (kvE ek ev)) (oneD t tYesD dk dv ρ d) (mk >>= fun k => mv >>= fun v => .ok (some (k, v))) := by
  unfold oneD
  exact Rl.bindP ht (Rl.bindP (v := true) rfl (Rl.bind hk fun k => Rl.bind hv fun v => (rfl : (.ok (some (ek k, ev v)) : Rs (Option (PyData × PyData))) = _)))
theorem oneD_T {ρ1 : EnvD} {d : PyData} {p : Bool} {mk : Rs κ} {mv : Rs ν} (ht : t.d ρ d = .ok ρ1) (htt : tt ρ1 = .ok p) (hk : Rl ek (dk ρ1) mk) (hv : Rl ev (dv ρ1) mv) : Rl (Option.map (kvE ek ev)) (oneD t tt dk dv ρ d) (if p then mk >>= fun k => mv >>= fun v => .ok (some (k, v)) else .ok none) := by
  unfold oneD
  refine Rl.bindP ht (Rl.bindP htt ?_)
  exact Rl.ite (fun _ => Rl.bind hk fun k => Rl.bind hv fun v => (rfl : (.ok (some (ek k, ev v)) : Rs (Option (PyData × PyData))) = _)) fun _ => rfl
/-! statements -/
variable {P : Rs Out → Rs β → Prop} {rest st : DS} {i : Nat} {r : Rs β}
theorem sqNewD (h : P (rest (ρ.set i (.od (([] : List (κ × ν)).map (kvE ek ev))))) r) : P (sSeq (sNewD i) rest ρ) r := h
theorem sqPut (K : K1 P ρ) (hk : KyE ek) {ck cv : DE} {mk : Rs κ} {mv : Rs ν} {r : List (κ × ν) → Rs β} (h : ρ[i]? = some (.od (m.map (kvE ek ev)))) (hv : Rl ev (cv ρ) mv) (hc : Rl ek (ck ρ) mk) (hr : ∀ zs : List (κ × ν), P (rest (ρ.set i (.od (zs.map (kvE ek ev))))) (r zs)) : P (sSeq (sPut i ck cv) rest ρ) (mv >>= fun v => mk >>= fun k => putG m k v >>= r) := by
  have ea : odAt i ρ = .ok (m.map (kvE ek ev)) := by unfold odAt; rw [h]
  have e1 : sSeq (sPut i ck cv) rest ρ = lift (cv ρ) ρ fun v => lift (ck ρ) ρ fun k => sSeq (fun ρ' => Den.putF (m.map (kvE ek ev)) k v >>= fun kvs' => .ok (.nx (ρ.set i (.od kvs')))) rest ρ := by
    show (match lift (cv ρ) ρ _ with | .ok (.nx ρ') => rest ρ' | r => r) = _
    cases cv ρ with
    | error er => cases er <;> rfl
    | ok v =>
      show (match ((odAt i ρ >>= _ : Rs Out)) with | .ok (.nx ρ') => rest ρ' | r => r) = _
      rw [ea]
      show (match lift (ck ρ) ρ _ with | .ok (.nx ρ') => rest ρ' | r => r) = lift (ck ρ) ρ _
      cases ck ρ with
      | error er => cases er <;> rfl
      | ok k => rfl
  rw [e1]
  refine lifM K hv fun v => lifM K hc fun k => ?_
  have e2 : Den.putF (m.map (kvE ek ev)) (ek k) (ev v) = if m.length < sizeLine then .ok ((putT m k v).map (kvE ek ev)) else stuck := by
    unfold Den.putF
    rw [okKey_ky hk m k, List.length_map, dPut_ky hk]
    by_cases c : m.length < sizeLine
    · rw [if_pos c, decide_eq_true c]; rfl
    · rw [if_neg c, decide_eq_false c]; rfl
  unfold putG
  show P (match ((Den.putF (m.map (kvE ek ev)) (ek k) (ev v) >>= fun kvs' => .ok (.nx (ρ.set i (.od kvs'))) : Rs Out)) with | .ok (.nx ρ') => rest ρ' | r => r) _
  rw [e2]
  by_cases c : m.length < sizeLine
  · rw [if_pos c, if_pos c]
    exact hr _
  · rw [if_neg c, if_neg c]; exact K.stk _
theorem sqFrz (h : ρ[i]? = some (.od (m.map (kvE ek ev)))) (h' : P (sSeq st rest (ρ.set i (.dat (eDct ek ev m)))) r) : P (sSeq (sFrzD i st) rest ρ) r := by
  have : sFrzD i st ρ = st (ρ.set i (.dat (eDct ek ev m))) := by unfold sFrzD; rw [h]; rfl
  have : sSeq (sFrzD i st) rest ρ = sSeq st rest (ρ.set i (.dat (eDct ek ev m))) := by
    show (match sFrzD i st ρ with | .ok (.nx ρ') => rest ρ' | r => r) = (match st _ with | .ok (.nx ρ') => rest ρ' | r => r)
    rw [this]
  rw [this]; exact h'
theorem sqFrz0 {d : PyData} (h : ρ[i]? = some (.dat d)) (h' : P (sSeq st rest ρ) r) : P (sSeq (sFrzD i st) rest ρ) r := by
  have : sFrzD i st ρ = st ρ := by unfold sFrzD; rw [h]
  have : sSeq (sFrzD i st) rest ρ = sSeq st rest ρ := by
    show (match sFrzD i st ρ with | .ok (.nx ρ') => rest ρ' | r => r) = (match st ρ with | .ok (.nx ρ') => rest ρ' | r => r)
    rw [this]
  rw [this]; exact h'
theorem frz0 {d : PyData} (h : ρ[i]? = some (.dat d)) (h' : P (st ρ) r) : P (sFrzD i st ρ) r := by
  have : sFrzD i st ρ = st ρ := by unfold sFrzD; rw [h]
  rw [this]; exact h'
theorem frz1 (h : ρ[i]? = some (.od (m.map (kvE ek ev)))) (h' : P (st (ρ.set i (.dat (eDct ek ev m)))) r) : P (sFrzD i st ρ) r := by
  have : sFrzD i st ρ = st (ρ.set i (.dat (eDct ek ev m))) := by unfold sFrzD; rw [h]; rfl
  rw [this]; exact h'
end
end Ty

set_option Elab.async false
set_option linter.all false
namespace Ty
open PySem PySem.Spec PyProof.Rows L2 Den
/-! ### what every law draws -/
noncomputable def drawsG (ns : List Int) (many : Int) : Rs (List Int) := by
  classical
  exact if h : ns.length ≤ 63 ∧ 0 ≤ many ∧ many ≤ 1000 then .ok (Classical.choose (draws_ok ns many.toNat h.1 (by omega))) else stuck
theorem draws_rl (ns : List Int) (many : Int) : Rl (eLst eInt) (fnD [true, false] 7 bdDraws [eLst eInt ns, eInt many]) (drawsG ns many) := by
  unfold drawsG
  split
  · rename_i h
    have h1 := (Classical.choose_spec (draws_ok ns many.toNat h.1 (by omega))).1
    have h2 : PyData.int (many.toNat : Int) = eInt many := congrArg PyData.int (Int.toNat_of_nonneg h.2.1)
    generalize Classical.choose (draws_ok ns many.toNat h.1 (by omega)) = ds at h1 ⊢
    rw [h2] at h1
    exact h1
  · exact True.intro
theorem drawsG_ok (ns : List Int) (many : Nat) (hl : ns.length ≤ 63) (hm : many ≤ 1000) : ∃ ds : List Int, drawsG ns many = .ok ds ∧ ds.length = many ∧ DrawOk ds := by
  have h : ns.length ≤ 63 ∧ 0 ≤ (many : Int) ∧ (many : Int) ≤ 1000 := ⟨hl, by omega, by omega⟩
  have s := (Classical.choose_spec (draws_ok ns (many : Int).toNat h.1 (by omega))).2
  refine ⟨_, ?_, s⟩
  unfold drawsG
  rw [dif_pos h]
end Ty

set_option Elab.async false
set_option linter.all false
set_option maxRecDepth 100000
set_option maxHeartbeats 4000000
namespace Nk53
open PySem PySem.Spec PyProof.Rows L2 Den Ty
/-- _law_orders -/
noncomputable def tf__law_orders (count : Int) : Rs (List (List Int)) :=
  ((.ok ([([] : (List Int))] : List (List Int)) : Rs (List (List Int))) >>= fun (rows1 : (List (List Int))) =>
  ((rangeG 0 count) >>= fun (xs22 : (List Int)) => (forT (fun (x4 : Int) (s5 : (List (List Int))) =>
    ((.ok ([] : (List (List Int))) : Rs (List (List Int))) >>= fun (longer7 : (List (List Int))) =>
  (forT (fun (x10 : (List Int)) (s11 : (List (List Int))) =>
    ((((rangeG 0 count) >>= fun (xs13 : (List Int)) => (compM xs13 (fun (z14 : Int) => (if (!(decide (z14 ∈ x10))) then (catG x10 ([z14] : (List Int))) >>= fun y => .ok (some y) else .ok none)))) >>= fun (x15 : (List (List Int))) => (catG s11 x15)) >>= fun (longer16 : (List (List Int))) =>
  (.ok longer16))) s5 longer7 >>= (fun (s17 : (List (List Int))) =>
  ((.ok s17 : Rs (List (List Int))) >>= fun (rows19 : (List (List Int))) =>
  (.ok rows19)))))) xs22 rows1 >>= (fun (s20 : (List (List Int))) =>
  (.ok s20 : Rs (List (List Int)))))))
theorem ev__law_orders (count : Int) : Rl (eLst (eTup eInt)) (cf__law_orders [(eInt count)]) (tf__law_orders count) :=
  fn [(.dat (eInt count)), .un, .un, .un, .un, .un] rfl rfl
  (sqSetN (ee := (eLst (eTup eInt))) (kF _) (dlP (lstP (cnP (tupP (nlP okE)) (nlP okE)))) fun rows1 => (sqForM (En := (fun (s2 : (List (List Int))) (j3 : (B × B × B)) => [(.dat (eInt count)), (.dat ((eLst (eTup eInt)) s2)), j3.1, j3.2.1, j3.2.2, .un]))  kF (calL (cnR rfl (nlR rng1R))) (.un, .un, .un) rfl (fun x4 s5 j6 => (tgt tgN (sqSetN (ee := (eLst (eTup eInt))) (kL _) (dlP (lstP (nlP okE))) fun longer7 => (sqFor (En := (fun (s8 : (List (List Int))) (j9 : (B)) => [(.dat (eInt count)), (.dat ((eLst (eTup eInt)) s5)), (.dat (eInt x4)), (.dat ((eLst (eTup eInt)) s8)), j9, .un]))  kL (itP rfl rfl) j6.2.2 rfl (fun x10 s11 j12 => (tgt tgN (one (sqSetM (ee := (eLst (eTup eInt))) (kL _) (o2B rfl (dlR (lcA (calL (cnR rfl (nlR rng1R))) fun xs13 => (lcR (e := (eTup eInt)) rfl rfl fun z14 => (one_T tgN (tvP (o2 rfl rfl (ninT eqInt))) (o2R rfl (tupP (cnP rfl (nlP okE))) (catT (e := eInt) (xs := x10) (ys := ([z14] : (List Int))))))))) fun x15 => (catL (e := (eTup eInt)) (xs := s11) (ys := x15))) fun longer16 => (endL (.dat ((eTup eInt) x10)) rfl))))) fun s17 j18 => (one (sqSetN (ee := (eLst (eTup eInt))) (kL _) rfl fun rows19 => (endL ((.dat (eInt x4)), (.dat ((eLst (eTup eInt)) s17)), j18) rfl))))))) fun s20 j21 => (retF (pp rfl))))
/-- _subsets -/
noncomputable def tf__subsets (many : Int) : Rs (List (List Int)) :=
  ((.ok ([([] : (List Int))] : List (List Int)) : Rs (List (List Int))) >>= fun (rows1 : (List (List Int))) =>
  ((rangeG 0 many) >>= fun (xs17 : (List Int)) => (forT (fun (x4 : Int) (s5 : (List (List Int))) =>
    (((compM s5 (fun (z7 : (List Int)) => ((catG z7 ([x4] : (List Int))) >>= fun y => .ok (some y)))) >>= fun (x8 : (List (List Int))) => (catG s5 x8)) >>= fun (rows9 : (List (List Int))) =>
  (.ok rows9))) xs17 rows1 >>= (fun (s10 : (List (List Int))) =>
  ((((lenG (s10.map (fun (z12 : (List Int)) => (((0 : Int) - (z12.length : Int)), z12)))) >>= fun (x13 : (List (Int × (List Int)))) => (.ok (sortT (ltP2 ltInt (lexL ltInt)) x13) : Rs (List (Int × (List Int))))) >>= fun (x14 : (List (Int × (List Int)))) => (.ok x14 : Rs (List (Int × (List Int))))) >>= fun (xs15 : (List (Int × (List Int)))) => (lenG (xs15.map (fun (z16 : (Int × (List Int))) => z16.2))))))))
theorem ev__subsets (many : Int) : Rl (eLst (eTup eInt)) (cf__subsets [(eInt many)]) (tf__subsets many) :=
  fn [(.dat (eInt many)), .un, .un, .un, .un] rfl rfl
  (sqSetN (ee := (eLst (eTup eInt))) (kF _) (dlP (lstP (cnP (tupP (nlP okE)) (nlP okE)))) fun rows1 => (sqForM (En := (fun (s2 : (List (List Int))) (j3 : (B)) => [(.dat (eInt many)), (.dat ((eLst (eTup eInt)) s2)), j3, .un, .un]))  kF (calL (cnR rfl (nlR rng1R))) .un rfl (fun x4 s5 j6 => (tgt tgN (one (sqSetM (ee := (eLst (eTup eInt))) (kL _) (o2B rfl (dlR (lcR (e := (eTup eInt)) (itP rfl rfl) rfl fun z7 => (one_R tgN (o2R rfl (tupP (cnP rfl (nlP okE))) (catT (e := eInt) (xs := z7) (ys := ([x4] : (List Int)))))))) fun x8 => (catL (e := (eTup eInt)) (xs := s5) (ys := x8))) fun rows9 => (endL (.dat (eInt x4)) rfl))))) fun s10 j11 => (retF (dlR (lcA (itA (ea := (eLst (eP2 eInt (eTup eInt)))) (dlR (calL (cnA (ea := (eLst (eP2 eInt (eTup eInt)))) (dlR (lcP (e := (eP2 eInt (eTup eInt))) (itP rfl rfl) rfl fun z12 => (one_m tgN (tupP (cnP (o2 rfl (calP (cnP rfl (nlP lenT))) rfl) (cnP rfl (nlP okE))))))) fun x13 => (pp (nlP (sortR (lP2 (lInt.mono (m := 1) (by decide)) (lTup lInt)) soP2)))))) fun x14 => (pp (e := List.map (eP2 eInt (eTup eInt))) rfl)) fun xs15 => (lcP (e := (eTup eInt)) rfl rfl fun z16 => (one_m (tgP2 tgN tgN) rfl)))))))
/-- _boarding -/
noncomputable def tf__boarding (loads : (List Int)) (stowing : (List Int)) (most : Int) : Rs (Option (List Int)) :=
  (((tf__subsets (loads.length : Int)) >>= fun (x1 : (List (List Int))) => (.ok x1 : Rs (List (List Int)))) >>= fun (xs37 : (List (List Int))) => (forT (fun (x4 : (List Int)) (s5 : (List ((List Int) × (List Int)))) =>
    (((((compM x4 (fun (z7 : Int) => (((ixG loads z7) >>= fun (x8 : Int) => ((ixG stowing z7) >>= fun (x9 : Int) => (mulG x8 x9))) >>= fun y => .ok (some y)))) >>= fun (x10 : (List Int)) => (.ok x10.sum : Rs Int)) >>= fun (x11 : Int) => (.ok (absI x11) : Rs Int)) >>= fun (x12 : Int) => (.ok (decide (x12 ≤ most)) : Rs Bool)) >>= fun (c22 : Bool) => if c22 then (((rangeG 0 (loads.length : Int)) >>= fun (xs13 : (List Int)) => (lenG ((xs13.filter (fun (z14 : Int) => (!(decide (z14 ∈ x4))))).map (fun (z14 : Int) => z14)))) >>= fun (rest15 : (List Int)) =>
  ((compM rest15 (fun (z16 : Int) => (((((catG x4 ([z16] : (List Int))) >>= fun (x17 : (List Int)) => (.ok (sortT ltInt x17) : Rs (List Int))) >>= fun (x18 : (List Int)) => (.ok x18 : Rs (List Int))) >>= fun (x19 : (List Int)) => (.ok (hasT s5 x19) : Rs Bool)) >>= fun p => if p then (.ok z16 : Rs Int) >>= fun y => .ok (some y) else .ok none))) >>= fun (nexts20 : (List Int)) =>
  (if ((decide ((rest15.length : Int) = (0 : Int))) || (decide ((0 : Int) < (nexts20.length : Int)))) then ((.ok nexts20 : Rs (List Int)) >>= fun v => (.ok x4 : Rs (List Int)) >>= fun k => putG s5 k v >>= fun (good21 : (List ((List Int) × (List Int)))) =>
  (.ok good21))
  else (.ok s5))))
  else (.ok s5))) xs37 ([] : (List ((List Int) × (List Int)))) >>= (fun (s23 : (List ((List Int) × (List Int)))) =>
  (if (!hasT s23 ([] : (List Int))) then (.ok (none : (Option (List Int))) : Rs (Option (List Int)))
  else ((.ok ([] : (List Int)) : Rs (List Int)) >>= fun (order25 : (List Int)) =>
  (whileT (fun (s29 : (List Int)) => (.ok (decide ((s29.length : Int) < (loads.length : Int))) : Rs Bool)) (fun (s29 : (List Int)) =>
    (((((atG s23 (sortT ltInt s29)) >>= fun (x31 : (List Int)) => (ixG x31 (0 : Int))) >>= fun (x32 : Int) => (.ok ([x32] : (List Int)) : Rs (List Int))) >>= fun (x33 : (List Int)) => (catG s29 x33)) >>= fun (order34 : (List Int)) =>
  (.ok order34))) 1000 order25 >>= (fun (s35 : (List Int)) =>
  (.ok (some s35 : (Option (List Int))) : Rs (Option (List Int))))))))))
theorem ev__boarding (loads : (List Int)) (stowing : (List Int)) (most : Int) : Rl (eOpt (eTup eInt)) (cf__boarding [((eTup eInt) loads), ((eTup eInt) stowing), (eInt most)]) (tf__boarding loads stowing most) :=
  fn [(.dat ((eTup eInt) loads)), (.dat ((eTup eInt) stowing)), (.dat (eInt most)), .un, .un, .un, .un, .un, .un] rfl rfl
  (sqNewD (ek := (eTup eInt)) (ev := (eLst eInt)) (sqForM (En := (fun (s2 : (List ((List Int) × (List Int)))) (j3 : (B × B × B)) => [(.dat ((eTup eInt) loads)), (.dat ((eTup eInt) stowing)), (.dat (eInt most)), (.od (s2.map (kvE (eTup eInt) (eLst eInt)))), j3.1, .un, j3.2.1, j3.2.2, .un]))  kF (itA (ea := (eLst (eTup eInt))) (cal (cnR (calP (cnP rfl (nlP lenT))) (nlR (ev__subsets (loads.length : Int))))) fun x1 => (pp (e := List.map (eTup eInt)) rfl)) (.un, .un, .un) rfl (fun x4 s5 j6 => (tgt tgN (one (sqIfM (kL _) (tvR (o2A (cal (cnA (ea := eInt) (cal (cnA (ea := (eLst eInt)) (dlR (lcR (e := eInt) (itP rfl rfl) rfl fun z7 => (one_R tgN (o2A (o2R rfl rfl (ixT (e := eInt))) fun x8 => (o2B rfl (o2R rfl rfl (ixT (e := eInt))) fun x9 => mulR))))) fun x10 => (pp (nlP sumP)))) fun x11 => (pp (nlP rfl)))) fun x12 => (pp (o2 rfl rfl rfl)))) (asc (sqSetM (ee := (eLst eInt)) (kL _) (dlR (lcA (calL (cnR (calP (cnP rfl (nlP lenT))) (nlR rng1R))) fun xs13 => (lcF (e := eInt) rfl rfl fun z14 => (one_f tgN (tvP (o2 rfl rfl (ninT eqInt))) rfl)))) fun rest15 => (asc (sqSetM (ee := (eLst eInt)) (kL _) (dlR (lcR (e := eInt) (itP rfl rfl) rfl fun z16 => (one_M tgN (tvR (o2A (cal (cnA (ea := (eLst eInt)) (dlR (calL (cnA (ea := (eTup eInt)) (o2R rfl (tupP (cnP rfl (nlP okE))) (catT (e := eInt) (xs := x4) (ys := ([z16] : (List Int))))) fun x17 => (pp (nlP (sortTp lInt soInt nlInt)))))) fun x18 => (pp (nlP rfl)))) fun x19 => (pp (o2 rfl rfl (inEd (k := x19) (kyTup kbInt)))))) (pp rfl)))) fun nexts20 => (sqIf (toP (tvP (o2 (calP (cnP rfl (nlP lenL))) rfl (eqP (x := (rest15.length : Int)) (y := (0 : Int)) eqInt))) (tvP (o2 (calP (cnP rfl (nlP lenL))) rfl rfl))) (sqPut (ek := (eTup eInt)) (ev := (eLst eInt)) (m := s5) (kL _) (kyTup kbInt) rfl (pp rfl) (pp rfl) fun good21 => (endL ((.dat ((eTup eInt) x4)), (.dat ((eLst eInt) rest15)), (.dat ((eLst eInt) nexts20))) rfl)) (sqSkip (endL ((.dat ((eTup eInt) x4)), (.dat ((eLst eInt) rest15)), (.dat ((eLst eInt) nexts20))) rfl))))))) (sqSkip (endL ((.dat ((eTup eInt) x4)), j6.2.1, j6.2.2) rfl)))))) fun s23 j24 => (sqIf (tvP (o2 (wid (tupP (nlP okE)) rfl) rfl (ninEd (k := ([] : (List Int))) (kyTup kbInt)))) (sqRetF (pp (wid rfl rfl))) (sqSkip (sqSetN (ee := (eTup eInt)) (kF _) (tupP (nlP okE)) fun order25 => (sqWhile (En := (fun (s26 : (List Int)) (j27 : Unit) => [(.dat ((eTup eInt) loads)), (.dat ((eTup eInt) stowing)), (.dat (eInt most)), (.od (s23.map (kvE (eTup eInt) (eLst eInt)))), j24.1, .un, j24.2.1, j24.2.2, (.dat ((eTup eInt) s26))]))  kF () rfl (fun s29 j30 => (pp (tvP (o2 (calP (cnP rfl (nlP lenT))) (calP (cnP rfl (nlP lenT))) rfl)))) (fun s29 j30 => (one (sqSetM (ee := (eTup eInt)) (kL _) (o2B rfl (tupR (cnA (ea := eInt) (o2A (o2R rfl (calP (cnP (dlP (calLP (cnP rfl (nlP (sortTp lInt soInt nlInt))))) (nlP rfl))) (ixEd (k := (sortT ltInt s29)) (kyTup kbInt))) fun x31 => (o2R rfl rfl (ixL (e := eInt)))) fun x32 => (pp (nlP okE)))) fun x33 => (catT (e := eInt) (xs := s29) (ys := x33))) fun order34 => (endL () rfl)))) fun s35 j36 => (retF (pp (wid rfl rfl)))))))))
/-- ascends -/
noncomputable def tf_ascends (values : (List Int)) : Rs Bool :=
  ((lenG ((values.zip (Den.cutD values (some (1 : Int)) none)).map (fun (z1 : (Int × Int)) => (decide (z1.1 < z1.2))))) >>= fun (x2 : (List Bool)) => (.ok (x2.all id) : Rs Bool))
theorem ev_ascends (values : (List Int)) : Rl eBool (cf_ascends [((eTup eInt) values)]) (tf_ascends values) :=
  fn [(.dat ((eTup eInt) values)), .un, .un] rfl rfl
  (retF (cal (cnA (ea := (eLst eBool)) (dlR (lcP (e := eBool) (calLP (cnP rfl (cnP (slP rfl (osP rfl) rfl slT) (nlP zipT)))) rfl fun z1 => (one_m (tgP2 tgN tgN) (o2 rfl rfl rfl)))) fun x2 => (pp (nlP allP)))))
/-- _check -/
noncomputable def tf__check (loads : PyData) (seats : PyData) : Rs Unit :=
  (narT seats (fun (vs1 : List PyData) => (if (!((decide ((1 : Int) ≤ (vs1.length : Int))) && (decide ((vs1.length : Int) ≤ (8 : Int))))) then (rz "BadSeats")
  else (((((compM vs1 (fun (z4 : PyData) => ((wholeG z4 ((0 : Int) - (20 : Int)) (20 : Int)) >>= fun y => .ok (some y)))) >>= fun (x5 : (List Bool)) => (.ok (x5.all id) : Rs Bool)) >>= fun z => .ok (!z)) >>= fun (x7 : Bool) => (if x7 then .ok true else ((((mapR2 cInt) vs1) >>= fun (x6 : (List Int)) => (tf_ascends x6)) >>= fun z => .ok (!z)))) >>= fun (c15 : Bool) => if c15 then (rz "BadSeats")
  else (narT loads (fun (vs8 : List PyData) => (if (!((decide ((1 : Int) ≤ (vs8.length : Int))) && (decide ((vs8.length : Int) ≤ (min (6 : Int) (vs1.length : Int)))))) then (rz "BadLoads")
  else ((((compM vs8 (fun (z11 : PyData) => ((wholeG z11 (1 : Int) (100 : Int)) >>= fun y => .ok (some y)))) >>= fun (x12 : (List Bool)) => (.ok (x12.all id) : Rs Bool)) >>= fun z => .ok (!z)) >>= fun (c13 : Bool) => if c13 then (rz "BadLoads")
  else (.ok ()))))
 (rz "BadLoads")))))
 (rz "BadSeats"))
theorem ev__check (loads : PyData) (seats : PyData) : Rl eNon (cf__check [loads, seats]) (tf__check loads seats) :=
  fn [(.dat loads), (.dat seats), .un] rfl rfl
  (caseT (E := (fun d16 => [(.dat loads), (.dat d16), .un])) kF seats (fun vs1 => (sqIf (toFP (tnP (tvP (isP (varT rfl) rfl))) (tnP (tvP (chP rfl (calP (cnP (varT rfl) (nlP lenT))) rfl rfl rfl)))) (sqRaise (kF _)) (sqSkip (sqIfM (kF _) (toA (tnR (tvR (cal (cnA (ea := (eLst eBool)) (dlR (lcR (e := eBool) (itP (varT rfl) rfl) rfl fun z4 => (one_R tgN (cal (cnR rfl (cnR (o2 rfl rfl rfl) (cnR rfl (nlR (whole_rl z4 ((0 : Int) - (20 : Int)) (20 : Int)))))))))) fun x5 => (pp (nlP allP)))))) fun x7 => (toR rfl (tnR (tvR (cal (cnA (ea := (eTup eInt)) (castR2 (ktTup2 ktInt) (varT rfl)) fun x6 => (nlR (ev_ascends x6)))))))) (sqRaise (kF _)) (sqSkip (caseT (E := (fun d14 => [(.dat d14), (.dat (.tuple vs1)), .un])) kF loads (fun vs8 => (sqIf (toFP (tnP (tvP (isP (varT rfl) rfl))) (tnP (tvP (chP rfl (calP (cnP (varT rfl) (nlP lenT))) (calP (cnP rfl (cnP (calP (cnP (varT rfl) (nlP lenT))) (nlP minP)))) rfl rfl)))) (sqRaise (kF _)) (sqSkip (one (sqIfM (kF _) (tnR (tvR (cal (cnA (ea := (eLst eBool)) (dlR (lcR (e := eBool) (itP (varT rfl) rfl) rfl fun z11 => (one_R tgN (cal (cnR rfl (cnR rfl (cnR rfl (nlR (whole_rl z11 (1 : Int) (100 : Int)))))))))) fun x12 => (pp (nlP allP)))))) (sqRaise (kF _)) (sqSkip (endF rfl))))))) (fun w9 h10 => (sqIfT (toT (tnP (tvP (isP rfl h10)))) (sqRaise (kF _)))))))))) (fun w2 h3 => (sqIfT (toT (tnP (tvP (isP rfl h3)))) (sqRaise (kF _)))))
/-- _check_stowing -/
noncomputable def tf__check_stowing (loads : PyData) (seats : PyData) (stowing : PyData) : Rs Unit :=
  ((tf__check loads seats) >>= fun _ => (narT stowing (fun (vs1 : List PyData) => (((((cTup cAny) loads) >>= fun (x4 : (List PyData)) => (.ok (x4.length : Int) : Rs Int)) >>= fun (x5 : Int) => (.ok (!(decide ((vs1.length : Int) = x5))) : Rs Bool)) >>= fun (c14 : Bool) => if c14 then (rz "BadStowing")
  else ((((compM vs1 (fun (z6 : PyData) => (((wholeG z6 ((0 : Int) - (20 : Int)) (20 : Int)) >>= fun (x8 : Bool) => (if x8 then (((cTup cAny) seats) >>= fun (x7 : (List PyData)) => (inG z6 x7)) else .ok false)) >>= fun y => .ok (some y)))) >>= fun (x9 : (List Bool)) => (.ok (x9.all id) : Rs Bool)) >>= fun z => .ok (!z)) >>= fun (c13 : Bool) => if c13 then (rz "BadStowing")
  else ((((dcG vs1 (fun (z10 : PyData) => ((cInt z10) >>= fun k => (.ok true : Rs Bool) >>= fun v => .ok (some (k, v))))) >>= fun m => .ok (m.length : Int)) >>= fun (x11 : Int) => (.ok (decide (x11 < (vs1.length : Int))) : Rs Bool)) >>= fun (c12 : Bool) => if c12 then (rz "BadStowing")
  else (.ok ())))))
 (rz "BadStowing")))
theorem ev__check_stowing (loads : PyData) (seats : PyData) (stowing : PyData) : Rl eNon (cf__check_stowing [loads, seats, stowing]) (tf__check_stowing loads seats stowing) :=
  fn [(.dat loads), (.dat seats), (.dat stowing), .un] rfl rfl
  (sqDropM (kF _) (cal (cnR rfl (cnR rfl (nlR (ev__check loads seats))))) (caseT (E := (fun d15 => [(.dat loads), (.dat seats), (.dat d15), .un])) kF stowing (fun vs1 => (sqIfM (kF _) (toF (tnP (tvP (isP (varT rfl) rfl))) (tvR (o2B (calP (cnP (varT rfl) (nlP lenT))) (cal (cnA (ea := (eTup eAny)) (castR (ktTup ktAny) rfl) fun x4 => (pp (nlP lenT)))) fun x5 => (pp (neP (x := (vs1.length : Int)) (y := x5) eqInt))))) (sqRaise (kF _)) (sqSkip (sqIfM (kF _) (tnR (tvR (cal (cnA (ea := (eLst eBool)) (dlR (lcR (e := eBool) (itP (varT rfl) rfl) rfl fun z6 => (one_R tgN (vaA (cal (cnR rfl (cnR (o2 rfl rfl rfl) (cnR rfl (nlR (whole_rl z6 ((0 : Int) - (20 : Int)) (20 : Int))))))) fun x8 => (vaR rfl (o2B rfl (castR (ktTup ktAny) rfl) fun x7 => (inGXT))))))) fun x9 => (pp (nlP allP)))))) (sqRaise (kF _)) (sqSkip (one (sqIfM (kF _) (tvR (o2A (dcLen (ek := eInt) (ev := eBool) kkInt (itP (varT rfl) rfl) rfl fun z10 => (oneD_R tgN (castR ktInt rfl) (pp rfl))) fun x11 => (pp (o2 rfl (calP (cnP (varT rfl) (nlP lenT))) rfl)))) (sqRaise (kF _)) (sqSkip (endF rfl))))))))) (fun w2 h3 => (sqIfT (toT (tnP (tvP (isP rfl h3)))) (sqRaise (kF _))))))
/-- boarding -/
noncomputable def tf_boarding (loads : PyData) (seats : PyData) (stowing : PyData) (most : PyData) : Rs (Option (List Int)) :=
  ((tf__check_stowing loads seats stowing) >>= fun _ => (((wholeG most (0 : Int) (100000 : Int)) >>= fun z => .ok (!z)) >>= fun (c4 : Bool) => if c4 then (rz "BadMost")
  else (((cTup cInt) loads) >>= fun (x1 : (List Int)) => (((cTup cInt) stowing) >>= fun (x2 : (List Int)) => ((cInt most) >>= fun (x3 : Int) => (tf__boarding x1 x2 x3))))))
theorem ev_boarding (loads : PyData) (seats : PyData) (stowing : PyData) (most : PyData) : Rl (eOpt (eTup eInt)) (cf_boarding [loads, seats, stowing, most]) (tf_boarding loads seats stowing most) :=
  fn [(.dat loads), (.dat seats), (.dat stowing), (.dat most)] rfl rfl
  (sqDropM (kF _) (cal (cnR rfl (cnR rfl (cnR rfl (nlR (ev__check_stowing loads seats stowing)))))) (sqIfM (kF _) (tnR (tvR (cal (cnR rfl (cnR rfl (cnR rfl (nlR (whole_rl most (0 : Int) (100000 : Int))))))))) (sqRaise (kF _)) (sqSkip (retF (cal (cnA (ea := (eTup eInt)) (castR (ktTup ktInt) rfl) fun x1 => (cnA (ea := (eTup eInt)) (castR (ktTup ktInt) rfl) fun x2 => (cnA (ea := eInt) (castR ktInt rfl) fun x3 => (nlR (ev__boarding x1 x2 x3))))))))))
/-- _law_refused -/
noncomputable def tf__law_refused (loads : (List Int)) (seats : (List Int)) (stowing : (List Int)) (most : PyData) : Rs Bool :=
  (tryT subE ((tf_boarding ((eTup eInt) loads) ((eTup eInt) seats) ((eTup eInt) stowing) most) >>= fun _ => (.ok (.go ()))) [("ChestError", fun n p => isiT (subE n "BadMost") p true false)] >>= afterT (.ok false : Rs Bool) (fun z => z))
theorem ev__law_refused (loads : (List Int)) (seats : (List Int)) (stowing : (List Int)) (most : PyData) : Rl eBool (cf__law_refused [((eTup eInt) loads), ((eTup eInt) seats), ((eTup eInt) stowing), most]) (tf__law_refused loads seats stowing most) :=
  fn [(.dat ((eTup eInt) loads)), (.dat ((eTup eInt) seats)), (.dat ((eTup eInt) stowing)), (.dat most), .un] rfl rfl
  (sqTry (ee := eBool) kF rF (one (sqDropM (kB _) (cal (cnR (wid rfl rfl) (cnR (wid rfl rfl) (cnR (wid rfl rfl) (cnR rfl (nlR (ev_boarding ((eTup eInt) loads) ((eTup eInt) seats) ((eTup eInt) stowing) most))))))) endB)) (HsT.cons hs_isi HsT.nil) rfl (retF (pp rfl)))
/-- _law_worst -/
noncomputable def tf__law_worst (loads : (List Int)) (stowing : (List Int)) (order : (List Int)) : Rs Int :=
  ((.ok ((0 : Int), (0 : Int)) : Rs (Int × Int)) >>= fun (x1 : (Int × Int)) =>
  (forT (fun (x4 : Int) (s5 : (Int × Int)) =>
    ((((ixG loads x4) >>= fun (x7 : Int) => ((ixG stowing x4) >>= fun (x8 : Int) => (mulG x7 x8))) >>= fun (x9 : Int) => (.ok (s5.1 + x9) : Rs Int)) >>= fun (now10 : Int) =>
  ((.ok (max (max s5.2 now10) ((0 : Int) - now10)) : Rs Int) >>= fun (worst11 : Int) =>
  (.ok (now10, worst11))))) order (x1.1, x1.2) >>= (fun (s12 : (Int × Int)) =>
  (.ok s12.2 : Rs Int))))
theorem ev__law_worst (loads : (List Int)) (stowing : (List Int)) (order : (List Int)) : Rl eInt (cf__law_worst [((eTup eInt) loads), ((eTup eInt) stowing), ((eTup eInt) order)]) (tf__law_worst loads stowing order) :=
  fn [(.dat ((eTup eInt) loads)), (.dat ((eTup eInt) stowing)), (.dat ((eTup eInt) order)), .un, .un, .un] rfl rfl
  (sqTgN (ee := (eP2 eInt eInt)) (kF _) (tupP (cnP rfl (cnP rfl (nlP okE)))) (fun x1 => (tgP2 tgN tgN)) fun x1 => (sqFor (En := (fun (s2 : (Int × Int)) (j3 : (B)) => [(.dat ((eTup eInt) loads)), (.dat ((eTup eInt) stowing)), (.dat ((eTup eInt) order)), (.dat (eInt s2.1)), (.dat (eInt s2.2)), j3]))  kF (itP rfl rfl) .un rfl (fun x4 s5 j6 => (tgt tgN (sqSetM (ee := eInt) (kL _) (o2B rfl (o2A (o2R rfl rfl (ixT (e := eInt))) fun x7 => (o2B rfl (o2R rfl rfl (ixT (e := eInt))) fun x8 => mulR)) fun x9 => (pp rfl)) fun now10 => (one (sqSetN (ee := eInt) (kL _) (calP (cnP rfl (cnP rfl (cnP (o2 rfl rfl rfl) (nlP maxP3))))) fun worst11 => (endL (.dat (eInt x4)) rfl)))))) fun s12 j13 => (retF (pp rfl))))
/-- steadiest -/
noncomputable def tf_steadiest (loads : PyData) (seats : PyData) (stowing : PyData) : Rs (Int × (List Int)) :=
  ((tf__check_stowing loads seats stowing) >>= fun _ => (((((((cTup cAny) loads) >>= fun (x1 : (List PyData)) => (.ok (x1.length : Int) : Rs Int)) >>= fun (x2 : Int) => (tf__subsets x2)) >>= fun (x3 : (List (List Int))) => (.ok x3 : Rs (List (List Int)))) >>= fun (xs4 : (List (List Int))) => (dcG xs4 (fun (z5 : (List Int)) => ((((compM z5 (fun (z6 : Int) => ((((((cTup cAny) loads) >>= fun (x7 : (List PyData)) => (ixG x7 z6)) >>= cInt) >>= fun (x9 : Int) => (((((cTup cAny) stowing) >>= fun (x8 : (List PyData)) => (ixG x8 z6)) >>= cInt) >>= fun (x10 : Int) => (mulG x9 x10))) >>= fun y => .ok (some y)))) >>= fun (x11 : (List Int)) => (.ok x11.sum : Rs Int)) >>= fun (x12 : Int) => (.ok (absI x12) : Rs Int)) >>= fun k => (.ok true : Rs Bool) >>= fun v => .ok (some (k, v)))))) >>= fun (tilts13 : (List (Int × Bool))) =>
  (forX (fun (x16 : Int) (s17 : Unit) =>
    ((((cTup cInt) loads) >>= fun (x19 : (List Int)) => (((cTup cInt) stowing) >>= fun (x20 : (List Int)) => (tf__boarding x19 x20 x16))) >>= fun (order21 : (Option (List Int))) =>
  (if order21.isSome then (((gO order21) >>= fun (x22 : (List Int)) => (.ok (x16, x22) : Rs (Int × (List Int)))) >>= fun z => .ok (Sg.ret z))
  else (.ok (.go ()))))) (sortT ltInt (tilts13.map (·.1))) () >>= afterX (fun (s23 : Unit) =>
  (.ok ((0 : Int), ([] : (List Int))) : Rs (Int × (List Int)))) (fun z => z))))
theorem ev_steadiest (loads : PyData) (seats : PyData) (stowing : PyData) : Rl (eP2 eInt (eTup eInt)) (cf_steadiest [loads, seats, stowing]) (tf_steadiest loads seats stowing) :=
  fn [(.dat loads), (.dat seats), (.dat stowing), .un, .un, .un, .un, .un] rfl rfl
  (sqDropM (kF _) (cal (cnR rfl (cnR rfl (cnR rfl (nlR (ev__check_stowing loads seats stowing)))))) (sqSetM (ee := (eDct eInt eBool)) (kF _) (dcA (itA (ea := (eLst (eTup eInt))) (cal (cnA (ea := eInt) (cal (cnA (ea := (eTup eAny)) (castR (ktTup ktAny) rfl) fun x1 => (pp (nlP lenT)))) fun x2 => (nlR (ev__subsets x2)))) fun x3 => (pp (e := List.map (eTup eInt)) rfl)) fun xs4 => (dcR (ek := eInt) (ev := eBool) kkInt rfl rfl fun z5 => (oneD_R tgN (cal (cnA (ea := eInt) (cal (cnA (ea := (eLst eInt)) (dlR (lcR (e := eInt) (itP rfl rfl) rfl fun z6 => (one_R tgN (o2A (castM ktInt (o2A (castR (ktTup ktAny) rfl) fun x7 => (o2R rfl rfl (ixT (e := eAny))))) fun x9 => (o2B rfl (castM ktInt (o2A (castR (ktTup ktAny) rfl) fun x8 => (o2R rfl rfl (ixT (e := eAny))))) fun x10 => mulR))))) fun x11 => (pp (nlP sumP)))) fun x12 => (pp (nlP rfl)))) (pp rfl)))) fun tilts13 => (sqForX (En := (fun (s14 : Unit) (j15 : (B × B)) => [(.dat loads), (.dat seats), (.dat stowing), (.dat ((eDct eInt eBool) tilts13)), .un, .un, j15.1, j15.2])) (ee := (eP2 eInt (eTup eInt))) kF rF (itP (dlP (calLP (cnP rfl (nlP (sortDc lInt soInt nlInt))))) rfl) (.un, .un) rfl (fun x16 s17 j18 => (tgt tgN (sqSetM (ee := (eOpt (eTup eInt))) (kX _) (cal (cnA (ea := (eTup eInt)) (castR (ktTup ktInt) rfl) fun x19 => (cnA (ea := (eTup eInt)) (castR (ktTup ktInt) rfl) fun x20 => (cnR rfl (nlR (ev__boarding x19 x20 x16)))))) fun order21 => (one (sqIf (tvP (o2 rfl rfl (isNotNoneP (fun _ => rfl)))) (sqRetM (kX _) rX (tupR (cnR rfl (cnA (ea := (eTup eInt)) (castR2 (gkO (eTup eInt)) rfl) fun x22 => (pp (nlP okE)))))) (sqSkip (endX ((.dat (eInt x16)), (.dat ((eOpt (eTup eInt)) order21))) rfl))))))) fun s23 j24 => (retF (pp (tupP (cnP rfl (cnP (tupP (nlP okE)) (nlP okE)))))))))
/-- _tilt -/
noncomputable def tf__tilt (loads : (List Int)) (stowing : (List Int)) : Rs Int :=
  ((compM (loads.zip stowing) (fun (z1 : (Int × Int)) => ((mulG z1.1 z1.2) >>= fun y => .ok (some y)))) >>= fun (x2 : (List Int)) => (.ok x2.sum : Rs Int))
theorem ev__tilt (loads : (List Int)) (stowing : (List Int)) : Rl eInt (cf__tilt [((eTup eInt) loads), ((eTup eInt) stowing)]) (tf__tilt loads stowing) :=
  fn [(.dat ((eTup eInt) loads)), (.dat ((eTup eInt) stowing)), .un, .un] rfl rfl
  (retF (cal (cnA (ea := (eLst eInt)) (dlR (lcR (e := eInt) (calLP (cnP rfl (cnP rfl (nlP zipT)))) rfl fun z1 => (one_R (tgP2 tgN tgN) (o2R rfl rfl mulR)))) fun x2 => (pp (nlP sumP)))))
/-- tilt_of -/
noncomputable def tf_tilt_of (loads : PyData) (seats : PyData) (stowing : PyData) : Rs Int :=
  ((tf__check_stowing loads seats stowing) >>= fun _ => (((cTup cInt) loads) >>= fun (x1 : (List Int)) => (((cTup cInt) stowing) >>= fun (x2 : (List Int)) => (tf__tilt x1 x2))))
theorem ev_tilt_of (loads : PyData) (seats : PyData) (stowing : PyData) : Rl eInt (cf_tilt_of [loads, seats, stowing]) (tf_tilt_of loads seats stowing) :=
  fn [(.dat loads), (.dat seats), (.dat stowing)] rfl rfl
  (sqDropM (kF _) (cal (cnR rfl (cnR rfl (cnR rfl (nlR (ev__check_stowing loads seats stowing)))))) (retF (cal (cnA (ea := (eTup eInt)) (castR (ktTup ktInt) rfl) fun x1 => (cnA (ea := (eTup eInt)) (castR (ktTup ktInt) rfl) fun x2 => (nlR (ev__tilt x1 x2)))))))
/-- law -/
noncomputable def tf_law (script : (List Int)) : Rs Bool :=
  ((drawsG script (60 : Int)) >>= fun (draws1 : (List Int)) =>
  (forX (fun (x4 : Int) (s5 : Unit) =>
    ((((compM (irng 0 (6 : Int)) (fun (z7 : Int) => ((((((((mulG (7 : Int) x4) >>= fun (x8 : Int) => (.ok (x8 + z7) : Rs Int)) >>= fun (x9 : Int) => (.ok (x9 % (60 : Int)) : Rs Int)) >>= fun (x10 : Int) => (ixG draws1 x10)) >>= fun (x11 : Int) => (.ok x11 : Rs Int)) >>= fun (x12 : Int) => (.ok (x12 % (31 : Int)) : Rs Int)) >>= fun (x13 : Int) => (.ok (x13 - (15 : Int)) : Rs Int)) >>= fun y => .ok (some y)))) >>= fun (x14 : (List Int)) => (sortSetG x14)) >>= fun (x15 : (List Int)) => (.ok x15 : Rs (List Int))) >>= fun (seats16 : (List Int)) =>
  ((((((ixG draws1 ((50 : Int) + x4)) >>= fun (x17 : Int) => (.ok x17 : Rs Int)) >>= fun (x18 : Int) => (.ok (x18 % (5 : Int)) : Rs Int)) >>= fun (x19 : Int) => (.ok ((1 : Int) + x19) : Rs Int)) >>= fun (x20 : Int) => (.ok (min (seats16.length : Int) x20) : Rs Int)) >>= fun (count21 : Int) =>
  ((((rangeG 0 count21) >>= fun (xs22 : (List Int)) => (compM xs22 (fun (z23 : Int) => (((((ixG draws1 ((30 : Int) + z23)) >>= fun (x24 : Int) => (.ok x24 : Rs Int)) >>= fun (x25 : Int) => (.ok (x25 % (40 : Int)) : Rs Int)) >>= fun (x26 : Int) => (.ok ((1 : Int) + x26) : Rs Int)) >>= fun y => .ok (some y))))) >>= fun (x27 : (List Int)) => (.ok x27 : Rs (List Int))) >>= fun (loads28 : (List Int)) =>
  ((((((((rangeG 0 (seats16.length : Int)) >>= fun (xs29 : (List Int)) => (compM xs29 (fun (z30 : Int) => ((((((((mulG (3 : Int) z30) >>= fun (x31 : Int) => (.ok ((40 : Int) + x31) : Rs Int)) >>= fun (x32 : Int) => (.ok (x32 + x4) : Rs Int)) >>= fun (x33 : Int) => (.ok (x33 % (60 : Int)) : Rs Int)) >>= fun (x34 : Int) => (ixG draws1 x34)) >>= fun (x35 : Int) => (.ok x35 : Rs Int)) >>= fun (x36 : Int) => ((ixG seats16 z30) >>= fun (x37 : Int) => (.ok (x36, x37) : Rs (Int × Int)))) >>= fun y => .ok (some y))))) >>= fun (x38 : (List (Int × Int))) => (.ok (sortT (ltP2 ltInt ltInt) x38) : Rs (List (Int × Int)))) >>= fun (x39 : (List (Int × Int))) => (.ok x39 : Rs (List (Int × Int)))) >>= fun (xs40 : (List (Int × Int))) => (lenG (xs40.map (fun (z41 : (Int × Int)) => z41.2)))) >>= fun (x42 : (List Int)) => (.ok (Den.cutD x42 none (some count21)) : Rs (List Int))) >>= fun (x43 : (List Int)) => (.ok x43 : Rs (List Int))) >>= fun (stowing44 : (List Int)) =>
  ((tf__law_orders count21) >>= fun (orders45 : (List (List Int))) =>
  ((compM orders45 (fun (z46 : (List Int)) => (((tf__law_worst loads28 stowing44 z46) >>= fun (x47 : Int) => (.ok (x47, z46) : Rs (Int × (List Int)))) >>= fun y => .ok (some y)))) >>= fun (worsts48 : (List (Int × (List Int)))) =>
  ((minG (ltP2 ltInt (lexL ltInt)) worsts48) >>= fun (best49 : (Int × (List Int))) =>
  (((tf_steadiest ((eTup eInt) loads28) ((eTup eInt) seats16) ((eTup eInt) stowing44)) >>= fun (x50 : (Int × (List Int))) => (.ok (!(decide (x50 = best49))) : Rs Bool)) >>= fun (c88 : Bool) => if c88 then (.ok (Sg.ret false))
  else ((tf_tilt_of ((eTup eInt) loads28) ((eTup eInt) seats16) ((eTup eInt) stowing44)) >>= fun (whole51 : Int) =>
  (((((((ixG draws1 ((20 : Int) + x4)) >>= fun (x52 : Int) => (.ok x52 : Rs Int)) >>= fun (x53 : Int) => (.ok (x53 % (400 : Int)) : Rs Int)) >>= fun (x54 : Int) => (.ok ([(0 : Int), best49.1, (max (0 : Int) (best49.1 - (1 : Int))), (best49.1 + (5 : Int)), (max whole51 ((0 : Int) - whole51)), (100000 : Int), x54] : List Int) : Rs (List Int))) >>= fun (x55 : (List Int)) => (sortSetG x55)) >>= fun (x56 : (List Int)) => (.ok x56 : Rs (List Int))) >>= fun (xs87 : (List Int)) => (forX (fun (x59 : Int) (s60 : Unit) =>
    ((lenG ((worsts48.filter (fun (z62 : (Int × (List Int))) => (decide (z62.1 ≤ x59)))).map (fun (z62 : (Int × (List Int))) => z62.2))) >>= fun (good63 : (List (List Int))) =>
  ((tf_boarding ((eTup eInt) loads28) ((eTup eInt) seats16) ((eTup eInt) stowing44) (eInt x59)) >>= fun (told64 : (Option (List Int))) =>
  (((if (decide ((0 : Int) < (good63.length : Int))) then ((ixG good63 (0 : Int)) >>= fun z => .ok (some z : (Option (List Int)))) else (.ok (none : (Option (List Int))) : Rs (Option (List Int)))) >>= fun (x65 : (Option (List Int))) => (.ok (!(decide (told64 = x65))) : Rs Bool)) >>= fun (c81 : Bool) => if c81 then (.ok (Sg.ret false))
  else (if told64.isSome then ((.ok whole51 : Rs Int) >>= fun (now66 : Int) =>
  ((((gO told64) >>= fun (x67 : (List Int)) => (.ok x67.reverse : Rs (List Int))) >>= fun (x68 : (List Int)) => (.ok x68 : Rs (List Int))) >>= fun (xs80 : (List Int)) => (forX (fun (x71 : Int) (s72 : Int) =>
    (if (decide (x59 < (max s72 ((0 : Int) - s72)))) then (.ok (Sg.ret false))
  else ((((ixG loads28 x71) >>= fun (x74 : Int) => ((ixG stowing44 x71) >>= fun (x75 : Int) => (mulG x74 x75))) >>= fun (x76 : Int) => (.ok (s72 - x76) : Rs Int)) >>= fun (now77 : Int) =>
  (.ok (.go now77))))) xs80 now66 >>= afterX (fun (s78 : Int) =>
  (if (!(decide (s78 = (0 : Int)))) then (.ok (Sg.ret false))
  else (.ok (.go ())))) (fun z => (Sg.ret z)))))
  else (.ok (.go ()))))))) xs87 () >>= afterX (fun (s82 : Unit) =>
  ((((compM ([(eInt (-(1 : Int))), (eInt (100001 : Int)), (eBool true), (eNon ()), (eStr (['3'] : List Char))] : List PyData) (fun (z84 : PyData) => ((tf__law_refused loads28 seats16 stowing44 z84) >>= fun y => .ok (some y)))) >>= fun (x85 : (List Bool)) => (.ok (x85.all id) : Rs Bool)) >>= fun z => .ok (!z)) >>= fun (c86 : Bool) => if c86 then (.ok (Sg.ret false))
  else (.ok (.go ())))) (fun z => (Sg.ret z)))))))))))))) (irng 0 (6 : Int)) () >>= afterX (fun (s89 : Unit) =>
  ((((tf_steadiest ((eP3 eInt eInt eInt) ((5 : Int), (5 : Int), (2 : Int))) ((eP3 eInt eInt eInt) ((-(1 : Int)), (0 : Int), (1 : Int))) ((eP3 eInt eInt eInt) ((-(1 : Int)), (1 : Int), (0 : Int)))) >>= fun (x91 : (Int × (List Int))) => (.ok (!(decide (x91 = ((5 : Int), ([(0 : Int), (1 : Int), (2 : Int)] : (List Int)))))) : Rs Bool)) >>= fun (x93 : Bool) => (if x93 then .ok true else ((tf_boarding ((eP3 eInt eInt eInt) ((5 : Int), (5 : Int), (2 : Int))) ((eP3 eInt eInt eInt) ((-(1 : Int)), (0 : Int), (1 : Int))) ((eP3 eInt eInt eInt) ((-(1 : Int)), (1 : Int), (0 : Int))) (eInt (4 : Int))) >>= fun (x92 : (Option (List Int))) => (.ok x92.isSome : Rs Bool)))) >>= fun (c99 : Bool) => if c99 then (.ok false : Rs Bool)
  else (((tf_boarding ((eP2 eInt eInt) ((5 : Int), (5 : Int))) ((eP3 eInt eInt eInt) ((-(2 : Int)), (2 : Int), (3 : Int))) ((eP2 eInt eInt) ((2 : Int), (3 : Int))) (eInt (30 : Int))) >>= fun (x94 : (Option (List Int))) => (.ok (decide (x94 = (some ([((0 : Int), (1 : Int)).1, ((0 : Int), (1 : Int)).2] : (List Int)) : (Option (List Int))))) : Rs Bool)) >>= fun (x98 : Bool) => (if x98 then (((tf_boarding ((eP2 eInt eInt) ((5 : Int), (5 : Int))) ((eP3 eInt eInt eInt) ((-(2 : Int)), (2 : Int), (3 : Int))) ((eP2 eInt eInt) ((2 : Int), (3 : Int))) (eInt (24 : Int))) >>= fun (x95 : (Option (List Int))) => (.ok x95.isNone : Rs Bool)) >>= fun (x97 : Bool) => (if x97 then ((tf_steadiest ((eP1 eInt) (7 : Int)) ((eP1 eInt) (0 : Int)) ((eP1 eInt) (0 : Int))) >>= fun (x96 : (Int × (List Int))) => (.ok (decide (x96 = ((0 : Int), ([(0 : Int)] : (List Int))))) : Rs Bool)) else .ok false)) else .ok false)))) (fun z => z)))
theorem ev_law (script : (List Int)) : Rl eBool (cf_law [((eLst eInt) script)]) (tf_law script) :=
  fn [(.fz (script.map eInt)), .un, .un, .un, .un, .un, .un, .un, .un, .un, .un, .un, .un, .un, .un, .un, .un, .un, .un, .un, .un] rfl rfl
  (sqSetM (ee := (eLst eInt)) (kF _) (cal (cnR rfl (cnR rfl (nlR (draws_rl script (60 : Int)))))) fun draws1 => (sqForX (En := (fun (s2 : Unit) (j3 : (B × B × B × B × B × B × B × B × B × B × B × B × B × B)) => [(.fz (script.map eInt)), (.dat ((eLst eInt) draws1)), j3.1, j3.2.1, .un, j3.2.2.1, j3.2.2.2.1, j3.2.2.2.2.1, .un, j3.2.2.2.2.2.1, j3.2.2.2.2.2.2.1, .un, j3.2.2.2.2.2.2.2.1, j3.2.2.2.2.2.2.2.2.1, j3.2.2.2.2.2.2.2.2.2.1, j3.2.2.2.2.2.2.2.2.2.2.1, .un, j3.2.2.2.2.2.2.2.2.2.2.2.1, j3.2.2.2.2.2.2.2.2.2.2.2.2.1, j3.2.2.2.2.2.2.2.2.2.2.2.2.2, .un])) (ee := eBool) kF rF (calLP (cnP rfl (nlP rng1P))) (.un, .un, .un, .un, .un, .un, .un, .un, .un, .un, .un, .un, .un, .un) rfl (fun x4 s5 j6 => (tgt tgN (sqSetM (ee := (eTup eInt)) (kX _) (cal (cnA (ea := (eLst eInt)) (dlR (ssA (dlR (lcR (e := eInt) (calLP (cnP rfl (nlP rng1P))) rfl fun z7 => (one_R tgN (o2A (o2A (cal (cnA (ea := eInt) (o2B rfl (o2A (o2A (o2R rfl rfl mulR) fun x8 => (pp (o2 rfl rfl rfl))) fun x9 => (pp (o2 rfl rfl (modP)))) fun x10 => (ixL (e := eInt))) fun x11 => (pp (nlP rfl)))) fun x12 => (pp (o2 rfl rfl (modP)))) fun x13 => (pp (o2 rfl rfl rfl)))))) fun x14 => sortSetL)) fun x15 => (pp (nlP rfl)))) fun seats16 => (sqSetM (ee := eInt) (kX _) (cal (cnR (calP (cnP rfl (nlP lenT))) (cnA (ea := eInt) (o2B rfl (o2A (cal (cnA (ea := eInt) (o2R rfl (o2 rfl rfl rfl) (ixL (e := eInt))) fun x17 => (pp (nlP rfl)))) fun x18 => (pp (o2 rfl rfl (modP)))) fun x19 => (pp rfl)) fun x20 => (pp (nlP minP))))) fun count21 => (sqSetM (ee := (eTup eInt)) (kX _) (cal (cnA (ea := (eLst eInt)) (dlR (lcA (calL (cnR rfl (nlR rng1R))) fun xs22 => (lcR (e := eInt) rfl rfl fun z23 => (one_R tgN (o2B rfl (o2A (cal (cnA (ea := eInt) (o2R rfl (o2 rfl rfl rfl) (ixL (e := eInt))) fun x24 => (pp (nlP rfl)))) fun x25 => (pp (o2 rfl rfl (modP)))) fun x26 => (pp rfl)))))) fun x27 => (pp (nlP rfl)))) fun loads28 => (sqSetM (ee := (eTup eInt)) (kX _) (cal (cnA (ea := (eLst eInt)) (slA (dlR (lcA (itA (ea := (eLst (eP2 eInt eInt))) (dlR (calL (cnA (ea := (eLst (eP2 eInt eInt))) (dlR (lcA (calL (cnR (calP (cnP rfl (nlP lenT))) (nlR rng1R))) fun xs29 => (lcR (e := (eP2 eInt eInt)) rfl rfl fun z30 => (one_R tgN (tupR (cnA (ea := eInt) (cal (cnA (ea := eInt) (o2B rfl (o2A (o2A (o2B rfl (o2R rfl rfl mulR) fun x31 => (pp rfl)) fun x32 => (pp (o2 rfl rfl rfl))) fun x33 => (pp (o2 rfl rfl (modP)))) fun x34 => (ixL (e := eInt))) fun x35 => (pp (nlP rfl)))) fun x36 => (cnA (ea := eInt) (o2R rfl rfl (ixT (e := eInt))) fun x37 => (pp (nlP okE))))))))) fun x38 => (pp (nlP (sortR (lP2 lInt lInt) soP2)))))) fun x39 => (pp (e := List.map (eP2 eInt eInt)) rfl)) fun xs40 => (lcP (e := eInt) rfl rfl fun z41 => (one_m tgN (o2 rfl rfl rfl))))) fun x42 => (pp (slP rfl rfl (osP rfl) slLi))) fun x43 => (pp (nlP rfl)))) fun stowing44 => (sqSetM (ee := (eLst (eTup eInt))) (kX _) (cal (cnR rfl (nlR (ev__law_orders count21)))) fun orders45 => (sqSetM (ee := (eLst (eP2 eInt (eTup eInt)))) (kX _) (dlR (lcR (e := (eP2 eInt (eTup eInt))) (itP rfl rfl) rfl fun z46 => (one_R tgN (tupR (cnA (ea := eInt) (cal (cnR rfl (cnR rfl (cnR rfl (nlR (ev__law_worst loads28 stowing44 z46)))))) fun x47 => (pp (cnP rfl (nlP okE)))))))) fun worsts48 => (sqSetM (ee := (eP2 eInt (eTup eInt))) (kX _) (cal (cnR rfl (nlR (minR (lP2 (lInt.mono (m := 1) (by decide)) (lTup lInt)))))) fun best49 => (sqIfM (kX _) (tvR (o2A (cal (cnR (wid rfl rfl) (cnR (wid rfl rfl) (cnR (wid rfl rfl) (nlR (ev_steadiest ((eTup eInt) loads28) ((eTup eInt) seats16) ((eTup eInt) stowing44))))))) fun x50 => (pp (o2 rfl rfl (neP (x := x50) (y := best49) (eqP2 (eqInt.mono (m := 1) (by decide)) (eqTup eqInt))))))) (sqRet rX rfl) (sqSkip (sqSetM (ee := eInt) (kX _) (cal (cnR (wid rfl rfl) (cnR (wid rfl rfl) (cnR (wid rfl rfl) (nlR (ev_tilt_of ((eTup eInt) loads28) ((eTup eInt) seats16) ((eTup eInt) stowing44))))))) fun whole51 => (sqForXM (En := (fun (s57 : Unit) (j58 : (B × B × B × B × B)) => [(.fz (script.map eInt)), (.dat ((eLst eInt) draws1)), (.dat (eInt x4)), (.dat ((eTup eInt) seats16)), .un, (.dat (eInt count21)), (.dat ((eTup eInt) loads28)), (.dat ((eTup eInt) stowing44)), .un, (.dat ((eLst (eTup eInt)) orders45)), (.dat ((eLst (eP2 eInt (eTup eInt))) worsts48)), .un, (.dat ((eP2 eInt (eTup eInt)) best49)), (.dat (eInt whole51)), j58.1, j58.2.1, .un, j58.2.2.1, j58.2.2.2.1, j58.2.2.2.2, .un])) (ee := eBool) kX rX (itA (ea := (eLst eInt)) (dlR (ssA (dlR (lstR (cnR rfl (cnR (o2 rfl rfl rfl) (cnR (calP (cnP rfl (cnP (o2 (o2 rfl rfl rfl) rfl rfl) (nlP maxP)))) (cnR (o2 (o2 rfl rfl rfl) rfl rfl) (cnR (calP (cnP rfl (cnP (o2 rfl rfl rfl) (nlP maxP)))) (cnR rfl (cnA (ea := eInt) (o2A (cal (cnA (ea := eInt) (o2R rfl (o2 rfl rfl rfl) (ixL (e := eInt))) fun x52 => (pp (nlP rfl)))) fun x53 => (pp (o2 rfl rfl (modP)))) fun x54 => (pp (nlP okE))))))))))) fun x55 => sortSetL)) fun x56 => (pp (e := List.map eInt) rfl)) (j6.2.2.2.2.2.2.2.2.2.1, j6.2.2.2.2.2.2.2.2.2.2.1, j6.2.2.2.2.2.2.2.2.2.2.2.1, j6.2.2.2.2.2.2.2.2.2.2.2.2.1, j6.2.2.2.2.2.2.2.2.2.2.2.2.2) rfl (fun x59 s60 j61 => (tgt tgN (sqSetM (ee := (eLst (eTup eInt))) (kX _) (dlR (lcF (e := (eTup eInt)) (itP rfl rfl) rfl fun z62 => (one_f (tgP2 tgN tgN) (tvP (o2 rfl rfl rfl)) rfl))) fun good63 => (sqSetM (ee := (eOpt (eTup eInt))) (kX _) (cal (cnR (wid rfl rfl) (cnR (wid rfl rfl) (cnR (wid rfl rfl) (cnR (wid rfl rfl) (nlR (ev_boarding ((eTup eInt) loads28) ((eTup eInt) seats16) ((eTup eInt) stowing44) (eInt x59)))))))) fun told64 => (sqIfM (kX _) (tvR (o2B rfl (diR (e := (eOpt (eTup eInt))) (tvP (o2 (calP (cnP rfl (nlP lenL))) rfl rfl)) (widM (e := (eTup eInt)) (e' := (eOpt (eTup eInt))) (f := fun z => (some z : (Option (List Int)))) (o2R rfl rfl (ixL (e := (eTup eInt)))) (fun _ => rfl)) (pp (wid rfl rfl))) fun x65 => (pp (neP (x := told64) (y := x65) (eqOpt (eqTup eqInt) (fun _ => rfl)))))) (sqRet rX rfl) (sqSkip (one (sqIf (tvP (o2 rfl rfl (isNotNoneP (fun _ => rfl)))) (asc (sqSetN (ee := eInt) (kX _) rfl fun now66 => (asc (sqForXM (En := (fun (s69 : Int) (j70 : (B)) => [(.fz (script.map eInt)), (.dat ((eLst eInt) draws1)), (.dat (eInt x4)), (.dat ((eTup eInt) seats16)), .un, (.dat (eInt count21)), (.dat ((eTup eInt) loads28)), (.dat ((eTup eInt) stowing44)), .un, (.dat ((eLst (eTup eInt)) orders45)), (.dat ((eLst (eP2 eInt (eTup eInt))) worsts48)), .un, (.dat ((eP2 eInt (eTup eInt)) best49)), (.dat (eInt whole51)), (.dat (eInt x59)), (.dat ((eLst (eTup eInt)) good63)), .un, (.dat ((eOpt (eTup eInt)) told64)), (.dat (eInt s69)), j70, .un])) (ee := eBool) kX rX (itA (ea := (eTup eInt)) (stA (castR2 (gkO (eTup eInt)) rfl) fun x67 => (pp (stP rfl (osP (o1 rfl rfl)) revT))) fun x68 => (pp (e := List.map eInt) rfl)) j61.2.2.2.2 rfl (fun x71 s72 j73 => (tgt tgN (sqIf (tvP (o2 (calP (cnP rfl (cnP (o2 rfl rfl rfl) (nlP maxP)))) rfl rfl)) (sqRet rX rfl) (sqSkip (one (sqSetM (ee := eInt) (kX _) (o2B rfl (o2A (o2R rfl rfl (ixT (e := eInt))) fun x74 => (o2B rfl (o2R rfl rfl (ixT (e := eInt))) fun x75 => mulR)) fun x76 => (pp rfl)) fun now77 => (endX (.dat (eInt x71)) rfl))))))) fun s78 j79 => (sqIf (tvP (o2 rfl rfl (neP (x := s78) (y := (0 : Int)) eqInt))) (sqRet rX rfl) (sqSkip (endX ((.dat (eInt x59)), (.dat ((eLst (eTup eInt)) good63)), (.dat ((eOpt (eTup eInt)) told64)), (.dat (eInt s78)), j79) rfl))))))) (sqSkip (endX ((.dat (eInt x59)), (.dat ((eLst (eTup eInt)) good63)), (.dat ((eOpt (eTup eInt)) told64)), j61.2.2.2.1, j61.2.2.2.2) rfl)))))))))) fun s82 j83 => (one (sqIfM (kX _) (tnR (tvR (cal (cnA (ea := (eLst eBool)) (dlR (lcR (e := eBool) (itP (dlP (lstP (cnP (wid (o1 rfl rfl) rfl) (cnP (wid rfl rfl) (cnP (wid rfl rfl) (cnP (wid rfl rfl) (cnP (wid rfl rfl) (nlP okE)))))))) rfl) rfl fun z84 => (one_R tgN (cal (cnR rfl (cnR rfl (cnR rfl (cnR rfl (nlR (ev__law_refused loads28 seats16 stowing44 z84)))))))))) fun x85 => (pp (nlP allP)))))) (sqRet rX rfl) (sqSkip (endX ((.dat (eInt x4)), (.dat ((eTup eInt) seats16)), (.dat (eInt count21)), (.dat ((eTup eInt) loads28)), (.dat ((eTup eInt) stowing44)), (.dat ((eLst (eTup eInt)) orders45)), (.dat ((eLst (eP2 eInt (eTup eInt))) worsts48)), (.dat ((eP2 eInt (eTup eInt)) best49)), (.dat (eInt whole51)), j83.1, j83.2.1, j83.2.2.1, j83.2.2.2.1, j83.2.2.2.2) rfl))))))))))))))))) fun s89 j90 => (sqIfM (kF _) (toA (tvR (o2A (cal (cnR (wid (tupP (cnP rfl (cnP rfl (cnP rfl (nlP okE))))) rfl) (cnR (wid (tupP (cnP (o1 rfl rfl) (cnP rfl (cnP rfl (nlP okE))))) rfl) (cnR (wid (tupP (cnP (o1 rfl rfl) (cnP rfl (cnP rfl (nlP okE))))) rfl) (nlR (ev_steadiest ((eP3 eInt eInt eInt) ((5 : Int), (5 : Int), (2 : Int))) ((eP3 eInt eInt eInt) ((-(1 : Int)), (0 : Int), (1 : Int))) ((eP3 eInt eInt eInt) ((-(1 : Int)), (1 : Int), (0 : Int))))))))) fun x91 => (pp (o2 rfl (tupP (cnP rfl (cnP (tupP (cnP rfl (cnP rfl (cnP rfl (nlP okE))))) (nlP okE)))) (neP (x := x91) (y := ((5 : Int), ([(0 : Int), (1 : Int), (2 : Int)] : (List Int)))) (eqP2 (eqInt.mono (m := 1) (by decide)) (eqTup eqInt))))))) fun x93 => (toR rfl (tvR (o2A (cal (cnR (wid (tupP (cnP rfl (cnP rfl (cnP rfl (nlP okE))))) rfl) (cnR (wid (tupP (cnP (o1 rfl rfl) (cnP rfl (cnP rfl (nlP okE))))) rfl) (cnR (wid (tupP (cnP (o1 rfl rfl) (cnP rfl (cnP rfl (nlP okE))))) rfl) (cnR (wid rfl rfl) (nlR (ev_boarding ((eP3 eInt eInt eInt) ((5 : Int), (5 : Int), (2 : Int))) ((eP3 eInt eInt eInt) ((-(1 : Int)), (0 : Int), (1 : Int))) ((eP3 eInt eInt eInt) ((-(1 : Int)), (1 : Int), (0 : Int))) (eInt (4 : Int))))))))) fun x92 => (pp (o2 rfl rfl (isNotNoneP (fun _ => rfl)))))))) (sqRetF (pp rfl)) (sqSkip (retF (vaA (o2A (cal (cnR (wid (tupP (cnP rfl (cnP rfl (nlP okE)))) rfl) (cnR (wid (tupP (cnP (o1 rfl rfl) (cnP rfl (cnP rfl (nlP okE))))) rfl) (cnR (wid (tupP (cnP rfl (cnP rfl (nlP okE)))) rfl) (cnR (wid rfl rfl) (nlR (ev_boarding ((eP2 eInt eInt) ((5 : Int), (5 : Int))) ((eP3 eInt eInt eInt) ((-(2 : Int)), (2 : Int), (3 : Int))) ((eP2 eInt eInt) ((2 : Int), (3 : Int))) (eInt (30 : Int))))))))) fun x94 => (pp (o2 rfl (wid (tupP (cnP rfl (cnP rfl (nlP okE)))) rfl) (eqP (x := x94) (y := (some ([((0 : Int), (1 : Int)).1, ((0 : Int), (1 : Int)).2] : (List Int)) : (Option (List Int)))) (eqOpt (eqTup eqInt) (fun _ => rfl)))))) fun x98 => (vaR rfl (vaA (o2A (cal (cnR (wid (tupP (cnP rfl (cnP rfl (nlP okE)))) rfl) (cnR (wid (tupP (cnP (o1 rfl rfl) (cnP rfl (cnP rfl (nlP okE))))) rfl) (cnR (wid (tupP (cnP rfl (cnP rfl (nlP okE)))) rfl) (cnR (wid rfl rfl) (nlR (ev_boarding ((eP2 eInt eInt) ((5 : Int), (5 : Int))) ((eP3 eInt eInt eInt) ((-(2 : Int)), (2 : Int), (3 : Int))) ((eP2 eInt eInt) ((2 : Int), (3 : Int))) (eInt (24 : Int))))))))) fun x95 => (pp (o2 rfl rfl (isNoneP (fun _ => rfl))))) fun x97 => (vaR rfl (o2A (cal (cnR (wid (tupP (cnP rfl (nlP okE))) rfl) (cnR (wid (tupP (cnP rfl (nlP okE))) rfl) (cnR (wid (tupP (cnP rfl (nlP okE))) rfl) (nlR (ev_steadiest ((eP1 eInt) (7 : Int)) ((eP1 eInt) (0 : Int)) ((eP1 eInt) (0 : Int)))))))) fun x96 => (pp (o2 rfl (tupP (cnP rfl (cnP (tupP (cnP rfl (nlP okE))) (nlP okE)))) (eqP (x := x96) (y := ((0 : Int), ([(0 : Int)] : (List Int)))) (eqP2 (eqInt.mono (m := 1) (by decide)) (eqTup eqInt)))))))))))))))
end Nk53

set_option Elab.async false
set_option linter.all false
set_option maxRecDepth 100000
namespace Ty
open PySem PySem.Spec PyProof.Rows L2 Den
/-! ### plain facts of the typed readings -/
section
variable {α β γ σ κ ν : Type}
theorem bind_eq {m : Rs α} {x : α} {k : α → Rs β} (h : m = .ok x) : (m >>= k) = k x := by rw [h]; rfl
theorem mulG_ok {i j : Int} (hi : i.natAbs < 1000000000000000000) (hj : j.natAbs < 1000000000000000000) : mulG i j = .ok (i * j) := by
  unfold mulG
  have : (1000000000000000000 : Nat) < 2 ^ 200 := by decide
  rw [if_pos ⟨by omega, by omega⟩]
theorem okI_ok {i : Int} (h : i.natAbs < 1000000000000000) : okI i = true := by
  unfold okI
  exact decide_eq_true (by omega)
theorem rangeG_ok {lo hi : Int} (h : lo.natAbs < 1000000000000000) (h' : hi.natAbs < 1000000000000000) : rangeG lo hi = .ok (irng lo hi) := by
  unfold rangeG
  rw [okI_ok h, okI_ok h']; rfl
theorem rgG_ok {lo hi : Int} (h : lo.natAbs < 1000000000000000) (h' : hi.natAbs < 1000000000000000) (hl : hi - lo ≤ 1000000) : rgG lo hi = .ok (irng lo hi) := by
  unfold rgG
  rw [okI_ok h, okI_ok h', decide_eq_true hl]; rfl
theorem catG_ok {xs ys : List α} (h : xs.length + ys.length ≤ 1000000) : catG xs ys = .ok (xs ++ ys) := if_pos h
theorem pushG_ok {xs : List α} {y : α} (h : xs.length ≤ 1000000) : pushG xs y = .ok (xs ++ [y]) := if_pos h
theorem extG_ok {xs ys : List α} (h : xs.length + ys.length ≤ 1000000) : extG xs ys = .ok (xs ++ ys) := if_pos h
theorem divG_ok {i j : Int} (h : 0 < j) (h' : j < 1073741824) : divG i j = .ok (i / j) := if_pos ⟨h, h'⟩
theorem modG_ok {i j : Int} (h : 0 < j) : modG i j = .ok (i % j) := if_pos h
theorem atI_nat {xs : List α} {i : Nat} (h : i < xs.length) : atI xs (i : Int) = some xs[i] := by
  unfold atI ixN
  rw [if_pos (by omega), if_pos (by omega)]
  show xs[(i : Int).toNat]? = _
  rw [Int.toNat_natCast, List.getElem?_eq_getElem h]
theorem ixG_nat {xs : List α} {i : Nat} (h : i < xs.length) : ixG xs (i : Int) = .ok xs[i] := by
  unfold ixG
  rw [atI_nat h]
theorem ixG_ok [Inhabited α] {xs : List α} {i : Int} (h0 : 0 ≤ i) (h : i < xs.length) : ixG xs i = .ok (xs.getD i.toNat default) := by
  have e : ((i.toNat : Nat) : Int) = i := Int.toNat_of_nonneg h0
  have hl : i.toNat < xs.length := by omega
  rw [← e, ixG_nat hl, Int.toNat_natCast, List.getD_eq_getElem?_getD, List.getElem?_eq_getElem hl]; rfl
theorem ixG_zero {x : α} {xs : List α} : ixG (x :: xs) 0 = .ok x := ixG_nat (xs := x :: xs) (i := 0) (by simp)
theorem ixG_last {xs : List α} {x : α} : ixG (xs ++ [x]) (-1) = .ok x := by
  unfold ixG atI ixN
  rw [if_neg (by omega), if_pos (by rw [List.length_append]; simp; omega)]
  show (match (xs ++ [x])[_]? with | some x => (.ok x : Rs α) | none => stuck) = _
  have : (-1 + (((xs ++ [x]).length : Nat) : Int)).toNat = xs.length := by rw [List.length_append]; simp; omega
  rw [this, List.getElem?_append_right (Nat.le_refl _)]
  simp
theorem sortSetG_ok {xs : List Int} (h : xs.length < 64) : sortSetG xs = .ok (sortU xs) := if_pos h
theorem lenSetG_ok {xs : List Int} (h : xs.length < 4000) : lenSetG xs = .ok (sortU xs).length := if_pos h
/-! comprehensions -/
theorem fmM_ok {f : α → Rs (Option β)} {g : α → Option β} : ∀ {xs : List α}, (∀ x ∈ xs, f x = .ok (g x)) → fmM f xs = .ok (xs.filterMap g)
  | [], _ => rfl
  | x :: xs, h => by
    rw [fmM, h x (List.mem_cons_self ..), ok_b, List.filterMap_cons]
    cases g x with
    | none => exact fmM_ok fun y hy => h y (List.mem_cons_of_mem _ hy)
    | some y =>
      show (fmM f xs >>= _) = _
      rw [fmM_ok fun y hy => h y (List.mem_cons_of_mem _ hy)]; rfl
theorem compM_ok {f : α → Rs (Option β)} {g : α → Option β} {xs : List α} (h : ∀ x ∈ xs, f x = .ok (g x)) (hl : (xs.filterMap g).length ≤ 1000000) : compM xs f = .ok (xs.filterMap g) := by
  unfold compM
  rw [fmM_ok h]
  exact lenG_ok hl
theorem compM_map {f : α → Rs (Option β)} {g : α → β} {xs : List α} (h : ∀ x ∈ xs, f x = .ok (some (g x))) (hl : xs.length ≤ 1000000) : compM xs f = .ok (xs.map g) := by
  have e : xs.filterMap (fun x => some (g x)) = xs.map g := by rw [← List.filterMap_eq_map]; rfl
  rw [compM_ok (g := fun x => some (g x)) h (by rw [e, List.length_map]; exact hl), e]
theorem compM_if {f : α → Rs (Option β)} {p : α → Bool} {g : α → β} {xs : List α} (h : ∀ x ∈ xs, f x = .ok (if p x then some (g x) else none)) (hl : xs.length ≤ 1000000) : compM xs f = .ok ((xs.filter p).map g) := by
  have e : xs.filterMap (fun x => if p x then some (g x) else none) = (xs.filter p).map g := by
    clear h hl
    induction xs with
    | nil => rfl
    | cons x xs ih =>
      rw [List.filterMap_cons, List.filter_cons]
      cases p x
      · exact ih
      · show _ :: _ = _
        rw [ih]; rfl
  rw [compM_ok (g := fun x => if p x then some (g x) else none) h (by rw [e, List.length_map]; exact Nat.le_trans (List.length_filter_le _ _) hl), e]
theorem flM_ok {f : α → Rs (List β)} {g : α → List β} : ∀ {xs : List α}, (∀ x ∈ xs, f x = .ok (g x)) → flM f xs = .ok (xs.flatMap g)
  | [], _ => rfl
  | x :: xs, h => by
    rw [flM, h x (List.mem_cons_self ..), ok_b, flM_ok fun y hy => h y (List.mem_cons_of_mem _ hy), ok_b, List.flatMap_cons]
theorem compM2_ok {f : α → Rs (List β)} {g : α → List β} {xs : List α} (h : ∀ x ∈ xs, f x = .ok (g x)) (hl : (xs.flatMap g).length ≤ 1000000) : compM2 xs f = .ok (xs.flatMap g) := by
  unfold compM2
  rw [flM_ok h]
  exact lenG_ok hl
theorem dcM_ok [DecidableEq κ] {f : α → Rs (Option (κ × ν))} {g : α → κ × ν} : ∀ {xs : List α} {acc : List (κ × ν)}, (∀ x ∈ xs, f x = .ok (some (g x))) → acc.length + xs.length ≤ 1000000 → dcM f acc xs = .ok (xs.foldl (fun m x => putT m (g x).1 (g x).2) acc)
  | [], _, _, _ => rfl
  | x :: xs, acc, h, hl => by
    rw [List.length_cons] at hl
    have hz : acc.length < sizeLine := by rw [sizeLine_eq]; omega
    rw [dcM, h x (List.mem_cons_self ..), ok_b]
    show (putG acc _ _ >>= _) = _
    unfold putG
    rw [if_pos hz, ok_b, List.foldl_cons]
    refine dcM_ok (fun y hy => h y (List.mem_cons_of_mem _ hy)) ?_
    unfold putT
    split
    · rw [List.length_map]; omega
    · rw [List.length_append]; simp; omega
theorem dcG_ok [DecidableEq κ] {f : α → Rs (Option (κ × ν))} {g : α → κ × ν} {xs : List α} (h : ∀ x ∈ xs, f x = .ok (some (g x))) (hl : xs.length ≤ 1000000) : dcG xs f = .ok (xs.foldl (fun m x => putT m (g x).1 (g x).2) []) := by
  unfold dcG
  rw [dcM_ok h (by simpa using hl)]; rfl
theorem putG_ok [DecidableEq κ] {m : List (κ × ν)} {k : κ} {v : ν} (h : m.length ≤ 1000000) : putG m k v = .ok (putT m k v) := by
  unfold putG
  exact if_pos (by rw [sizeLine_eq]; omega)
/-! dicts -/
theorem getT_nil [DecidableEq κ] (k : κ) : getT ([] : List (κ × ν)) k = none := rfl
theorem getT_cons [DecidableEq κ] (p : κ × ν) (m : List (κ × ν)) (k : κ) : getT (p :: m) k = if p.1 = k then some p.2 else getT m k := by
  unfold getT
  rw [List.find?_cons]
  by_cases h : p.1 = k
  · rw [decide_eq_true h, if_pos h]; rfl
  · rw [decide_eq_false h, if_neg h]
theorem getT_append [DecidableEq κ] (m m' : List (κ × ν)) (k : κ) : getT (m ++ m') k = (getT m k).or (getT m' k) := by
  unfold getT
  rw [List.find?_append, Option.map_or]
theorem getT_none [DecidableEq κ] {m : List (κ × ν)} {k : κ} : getT m k = none ↔ k ∉ m.map (·.1) := by
  unfold getT
  rw [Option.map_eq_none_iff, List.find?_eq_none]
  simp only [decide_eq_true_eq, List.mem_map, not_exists, not_and]
theorem getT_some [DecidableEq κ] {m : List (κ × ν)} {k : κ} {v : ν} (h : getT m k = some v) : (k, v) ∈ m := by
  unfold getT at h
  obtain ⟨p, hp, rfl⟩ := Option.map_eq_some_iff.mp h
  have h1 := List.find?_some hp
  have h2 := List.mem_of_find?_eq_some hp
  rw [← of_decide_eq_true h1]
  exact h2
theorem hasT_iff [DecidableEq κ] {m : List (κ × ν)} {k : κ} : hasT m k = true ↔ k ∈ m.map (·.1) := by
  unfold hasT
  rw [Option.isSome_iff_ne_none, ne_eq, getT_none, Classical.not_not]
theorem getT_put [DecidableEq κ] (m : List (κ × ν)) (k k' : κ) (v : ν) : getT (putT m k v) k' = if k = k' then some v else getT m k' := by
  unfold putT
  split
  · rename_i h
    induction m with
    | nil => cases h
    | cons p m ih =>
      rw [List.map_cons, getT_cons, getT_cons]
      rw [getT_cons] at h
      by_cases h1 : p.1 = k
      · rw [if_pos h1]
        show (if p.1 = k' then some v else _) = _
        rw [h1]
        by_cases h2 : k = k'
        · rw [if_pos h2, if_pos h2]
        · rw [if_neg h2, if_neg h2, if_neg h2]
          clear ih h
          induction m with
          | nil => rfl
          | cons q m ih =>
            rw [List.map_cons, getT_cons, getT_cons]
            by_cases h3 : q.1 = k
            · rw [if_pos h3, h3, if_neg h2, if_neg h2]; exact ih
            · rw [if_neg h3, ih]
      · rw [if_neg h1] at h ⊢
        by_cases h2 : p.1 = k'
        · rw [if_pos h2, if_pos h2, if_neg fun z => h1 (h2.trans z.symm)]
        · rw [if_neg h2, if_neg h2]
          exact ih h
  · rename_i h
    rw [getT_append, getT_cons]
    have h0 : getT m k = none := by
      cases q : getT m k with
      | none => rfl
      | some w => rw [q] at h; exact absurd rfl h
    by_cases h2 : k = k'
    · subst h2
      rw [h0, if_pos rfl, if_pos rfl]; rfl
    · rw [if_neg h2, if_neg h2]
      show (getT m k').or none = _
      rw [Option.or_none]
theorem putT_keys [DecidableEq κ] (m : List (κ × ν)) (k : κ) (v : ν) : (putT m k v).map (·.1) = if k ∈ m.map (·.1) then m.map (·.1) else m.map (·.1) ++ [k] := by
  unfold putT
  by_cases h : (getT m k).isSome = true
  · rw [if_pos h, if_pos (hasT_iff.mp h), List.map_map]
    refine List.map_congr_left fun p _ => ?_
    show (if p.1 = k then (p.1, v) else p).1 = p.1
    split <;> rfl
  · rw [if_neg h, if_neg (fun z => h (hasT_iff.mpr z)), List.map_append]; rfl
theorem putT_len [DecidableEq κ] (m : List (κ × ν)) (k : κ) (v : ν) : (putT m k v).length ≤ m.length + 1 := by
  unfold putT
  split
  · rw [List.length_map]; omega
  · rw [List.length_append]; simp
theorem atG_some [DecidableEq κ] {m : List (κ × ν)} {k : κ} {v : ν} (h : getT m k = some v) : atG m k = .ok v := by
  unfold atG
  rw [h]
/-! loops -/
theorem forT_ind {f : α → σ → Rs σ} (P : List α → σ → Prop) : ∀ (xs pre : List α) (s : σ), P pre s → (∀ p x r s, pre ++ xs = p ++ x :: r → P p s → ∃ s', f x s = .ok s' ∧ P (p ++ [x]) s') → ∃ s', forT f xs s = .ok s' ∧ P (pre ++ xs) s'
  | [], pre, s, h, _ => ⟨s, rfl, by rw [List.append_nil]; exact h⟩
  | x :: xs, pre, s, h, hf => by
    obtain ⟨s1, e1, h1⟩ := hf pre x xs s rfl h
    obtain ⟨s2, e2, h2⟩ := forT_ind P xs (pre ++ [x]) s1 h1 fun p y r s e hp => hf p y r s (by rw [← e, List.append_assoc]; rfl) hp
    refine ⟨s2, ?_, ?_⟩
    · rw [forT, e1, ok_b, e2]
    · rw [List.append_assoc] at h2; exact h2
theorem forT_fold {f : α → σ → Rs σ} {g : σ → α → σ} : ∀ {xs : List α} {s : σ}, (∀ x ∈ xs, ∀ s, f x s = .ok (g s x)) → forT f xs s = .ok (xs.foldl g s)
  | [], _, _ => rfl
  | x :: xs, s, h => by rw [forT, h x (List.mem_cons_self ..), ok_b, forT_fold fun y hy => h y (List.mem_cons_of_mem _ hy)]; rfl
theorem forT_inv {f : α → σ → Rs σ} (P : σ → Prop) : ∀ {xs : List α} {s : σ}, P s → (∀ x ∈ xs, ∀ s, P s → ∃ s', f x s = .ok s' ∧ P s') → ∃ s', forT f xs s = .ok s' ∧ P s'
  | [], s, h, _ => ⟨s, rfl, h⟩
  | x :: xs, s, h, hf => by
    obtain ⟨s1, e1, h1⟩ := hf x (List.mem_cons_self ..) s h
    obtain ⟨s2, e2, h2⟩ := forT_inv P h1 fun y hy => hf y (List.mem_cons_of_mem _ hy)
    exact ⟨s2, by rw [forT, e1, ok_b, e2], h2⟩
theorem forX_go {f : α → Unit → Rs (Sg Unit β)} : ∀ {xs : List α}, (∀ x ∈ xs, f x () = .ok (.go ())) → forX f xs () = .ok (.inl ())
  | [], _ => rfl
  | x :: xs, h => by
    rw [forX, h x (List.mem_cons_self ..), ok_b]
    exact forX_go fun y hy => h y (List.mem_cons_of_mem _ hy)
def sgO : Option β → Sg Unit β
  | some b => .ret b
  | none => .go ()
def smO : Option β → Sum Unit β
  | some b => .inr b
  | none => .inl ()
theorem forX_find {f : α → Unit → Rs (Sg Unit β)} {g : α → Option β} : ∀ {xs : List α}, (∀ x ∈ xs, f x () = .ok (sgO (g x))) → forX f xs () = .ok (smO (xs.findSome? g))
  | [], _ => rfl
  | x :: xs, h => by
    rw [forX, h x (List.mem_cons_self ..), ok_b, List.findSome?_cons]
    cases g x with
    | some b => rfl
    | none => exact forX_find fun y hy => h y (List.mem_cons_of_mem _ hy)
theorem forX_inv {f : α → σ → Rs (Sg σ β)} (P : σ → Prop) : ∀ {xs : List α} {s : σ}, P s → (∀ x ∈ xs, ∀ s, P s → ∃ s', f x s = .ok (.go s') ∧ P s') → ∃ s', forX f xs s = .ok (.inl s') ∧ P s'
  | [], s, h, _ => ⟨s, rfl, h⟩
  | x :: xs, s, h, hf => by
    obtain ⟨s1, e1, h1⟩ := hf x (List.mem_cons_self ..) s h
    obtain ⟨s2, e2, h2⟩ := forX_inv P h1 fun y hy => hf y (List.mem_cons_of_mem _ hy)
    exact ⟨s2, by rw [forX, e1, ok_b]; exact e2, h2⟩
theorem whileT_stop {c : σ → Rs Bool} {f : σ → Rs σ} {n : Nat} {s : σ} (h : c s = .ok false) : whileT c f (n + 1) s = .ok s := by rw [whileT, h]; rfl
theorem whileT_step {c : σ → Rs Bool} {f : σ → Rs σ} {n : Nat} {s s' : σ} (h : c s = .ok true) (h' : f s = .ok s') : whileT c f (n + 1) s = whileT c f n s' := by
  rw [whileT, h, ok_b]
  show (f s >>= _) = _
  rw [h']; rfl
/-! rows of numbers -/
theorem mem_irng {lo hi x : Int} : x ∈ irng lo hi ↔ lo ≤ x ∧ x < hi := by
  unfold irng
  rw [List.mem_map]
  constructor
  · rintro ⟨i, hi', rfl⟩
    rw [List.mem_range] at hi'
    omega
  · intro h
    exact ⟨(x - lo).toNat, by rw [List.mem_range]; omega, by omega⟩
theorem irng_len (lo hi : Int) : (irng lo hi).length = (hi - lo).toNat := by unfold irng; rw [List.length_map, List.length_range]
theorem irng_nat (n : Nat) : irng 0 (n : Int) = (List.range n).map fun (i : Nat) => (i : Int) := by
  unfold irng
  rw [Int.sub_zero, Int.toNat_natCast]
  exact List.map_congr_left fun i _ => Int.zero_add _
theorem irng_asc (lo hi : Int) : (irng lo hi).Pairwise (· < ·) := by
  unfold irng
  rw [List.pairwise_map]
  exact List.pairwise_lt_range.imp fun h => by omega
/-! casts of what is known -/
theorem mapR_id {e : α → PyData} {c : PyData → Rs α} (h : ∀ x, c (e x) = .ok x) : ∀ xs : List α, mapR c (xs.map e) = .ok xs
  | [] => rfl
  | x :: xs => by rw [List.map_cons, mapR, h, ok_b, mapR_id h xs]; rfl
theorem mapR_any : ∀ xs : List PyData, mapR cAny xs = .ok xs
  | [] => rfl
  | x :: xs => by rw [mapR, mapR_any xs]; rfl
theorem cTup_int (xs : List Int) : cTup cInt (eTup eInt xs) = .ok xs := mapR_id (e := eInt) (c := cInt) (fun _ => rfl) xs
theorem cTup_any (e : α → PyData) (xs : List α) : cTup cAny (eTup e xs) = .ok (xs.map e) := mapR_any _
theorem mapR2_int (xs : List Int) : mapR2 cInt (xs.map eInt) = .ok xs := by
  induction xs with
  | nil => rfl
  | cons x xs ih => rw [List.map_cons, mapR2, ih]; rfl
theorem inG_of [DecidableEq α] {e : α → PyData} {n : Nat} (h : EqE e n) (hn : n + 1 ≤ 64) (x : α) (xs : List α) : inG (e x) (xs.map e) = .ok (decide (x ∈ xs)) := by
  have := inL h (x := x) (xs := xs) hn
  unfold inD at this
  unfold inG
  split
  · rename_i c
    simp only at this
    rw [if_pos c] at this
    injection this with this
    injection this with this
    rw [← this]
  · rename_i c
    simp only at this
    rw [if_neg c] at this
    cases this
end
end Ty

set_option Elab.async false
set_option linter.all false
set_option maxRecDepth 100000
namespace Ty
open PySem PySem.Spec PyProof.Rows L2 Den
/-! ### orders -/
structure StO {α : Type} (lt : α → α → Bool) : Prop where
  irr : ∀ a, lt a a = false
  tr : ∀ a b c, lt a b = true → lt b c = true → lt a c = true
  tri : ∀ a b, lt a b = true ∨ a = b ∨ lt b a = true
section
variable {α β : Type} {lt : α → α → Bool} {xs ys : List α}
theorem stInt : StO ltInt := ⟨fun a => by simp [ltInt], fun a b c => by simp only [ltInt, decide_eq_true_eq]; omega, fun a b => by simp only [ltInt, decide_eq_true_eq]; omega⟩
theorem StO.asym (h : StO lt) {a b : α} (q : lt a b = true) : lt b a = false := by
  cases e : lt b a with
  | false => rfl
  | true => have := h.tr a b a q e; rw [h.irr] at this; cases this
theorem stP2 [DecidableEq α] {l1 : α → α → Bool} {l2 : β → β → Bool} (h1 : StO l1) (h2 : StO l2) : StO (ltP2 l1 l2) where
  irr := fun a => by unfold ltP2; rw [if_pos rfl, h2.irr]
  tr := fun a b c p q => by
    unfold ltP2 at *
    by_cases e : a.1 = b.1
    · rw [if_pos e] at p
      by_cases f : b.1 = c.1
      · rw [if_pos f] at q
        rw [if_pos (e.trans f)]
        exact h2.tr _ _ _ p q
      · rw [if_neg f] at q
        rw [if_neg (by rw [e]; exact f), e]
        exact q
    · rw [if_neg e] at p
      by_cases f : b.1 = c.1
      · rw [if_neg (by rw [← f]; exact e), ← f]
        exact p
      · rw [if_neg f] at q
        have := h1.tr _ _ _ p q
        rw [if_neg (fun z => by rw [z, h1.irr] at this; cases this)]
        exact this
  tri := fun a b => by
    unfold ltP2
    by_cases e : a.1 = b.1
    · rw [if_pos e, if_pos e.symm]
      rcases h2.tri a.2 b.2 with h | h | h
      · exact .inl h
      · exact .inr (.inl (Prod.ext e h))
      · exact .inr (.inr h)
    · rw [if_neg e, if_neg fun z => e z.symm]
      rcases h1.tri a.1 b.1 with h | h | h
      · exact .inl h
      · exact absurd h e
      · exact .inr (.inr h)
theorem lex_irr [DecidableEq α] (h : StO lt) : ∀ a : List α, lexL lt a a = false
  | [] => rfl
  | x :: xs => by rw [lexL, if_pos rfl, lex_irr h xs]
theorem lex_nil (a : List α) [DecidableEq α] : lexL lt a [] = false := by cases a <;> rfl
theorem lex_tr [DecidableEq α] (h : StO lt) : ∀ a b c : List α, lexL lt a b = true → lexL lt b c = true → lexL lt a c = true
  | _, b, [], _, q => by rw [lex_nil] at q; cases q
  | a, [], _ :: _, p, _ => by rw [lex_nil] at p; cases p
  | [], _ :: _, _ :: _, _, _ => rfl
  | x :: xs, y :: ys, z :: zs, p, q => by
    rw [lexL] at p q ⊢
    by_cases e : x = y
    · rw [if_pos e] at p
      by_cases f : y = z
      · rw [if_pos f] at q
        rw [if_pos (e.trans f)]
        exact lex_tr h xs ys zs p q
      · rw [if_neg f] at q
        rw [if_neg (by rw [e]; exact f), e]
        exact q
    · rw [if_neg e] at p
      by_cases f : y = z
      · rw [if_neg (by rw [← f]; exact e), ← f]
        exact p
      · rw [if_neg f] at q
        have := h.tr _ _ _ p q
        rw [if_neg (fun w => by rw [w, h.irr] at this; cases this)]
        exact this
theorem lex_tri [DecidableEq α] (h : StO lt) : ∀ a b : List α, lexL lt a b = true ∨ a = b ∨ lexL lt b a = true
  | [], [] => .inr (.inl rfl)
  | [], _ :: _ => .inl rfl
  | _ :: _, [] => .inr (.inr rfl)
  | x :: xs, y :: ys => by
    rw [lexL, lexL]
    by_cases e : x = y
    · rw [if_pos e, if_pos e.symm]
      rcases lex_tri h xs ys with q | q | q
      · exact .inl q
      · exact .inr (.inl (by rw [e, q]))
      · exact .inr (.inr q)
    · rw [if_neg e, if_neg fun z => e z.symm]
      rcases h.tri x y with q | q | q
      · exact .inl q
      · exact absurd q e
      · exact .inr (.inr q)
theorem stLex [DecidableEq α] (h : StO lt) : StO (lexL lt) := ⟨lex_irr h, lex_tr h, lex_tri h⟩
theorem stBool : StO (fun a b : Bool => !a && b) := ⟨by decide, by decide, by decide⟩
/-! sorted -/
theorem sortT_perm : (sortT lt xs).Perm xs := List.mergeSort_perm ..
theorem mem_sortT {x : α} : x ∈ sortT lt xs ↔ x ∈ xs := sortT_perm.mem_iff
theorem sortT_len : (sortT lt xs).length = xs.length := sortT_perm.length_eq
theorem StO.le_tr (h : StO lt) (a b c : α) (p : (!lt b a) = true) (q : (!lt c b) = true) : (!lt c a) = true := by
  rw [Bool.not_eq_true'] at *
  cases e : lt c a with
  | false => rfl
  | true =>
    rcases h.tri a b with r | r | r
    · rw [h.tr c a b e r] at q; cases q
    · subst r; rw [e] at q; cases q
    · rw [r] at p; cases p
theorem StO.le_tot (h : StO lt) (a b : α) : ((!lt b a) || (!lt a b)) = true := by
  cases e : lt b a with
  | false => rfl
  | true => rw [h.asym e]; rfl
theorem sortT_pw (h : StO lt) : (sortT lt xs).Pairwise fun a b => lt b a = false :=
  (List.pairwise_mergeSort (h.le_tr) (h.le_tot) xs).imp fun q => by rw [Bool.not_eq_true'] at q; exact q
theorem StO.anti (h : StO lt) {a b : α} (p : lt b a = false) (q : lt a b = false) : a = b := by
  rcases h.tri a b with r | r | r
  · rw [q] at r; cases r
  · exact r
  · rw [p] at r; cases r
/-- rows that are in order are told by their items -/
theorem sorted_eq (h : StO lt) (hx : xs.Pairwise fun a b => lt b a = false) (hy : ys.Pairwise fun a b => lt b a = false) (p : xs.Perm ys) : xs = ys :=
  p.eq_of_pairwise (le := fun a b => lt b a = false) (fun a b _ _ q r => h.anti q r) hx hy
theorem sortT_congr (h : StO lt) (p : xs.Perm ys) : sortT lt xs = sortT lt ys :=
  sorted_eq h (sortT_pw h) (sortT_pw h) (sortT_perm.trans (p.trans sortT_perm.symm))
theorem sortT_of (h : StO lt) (hy : ys.Pairwise fun a b => lt b a = false) (p : xs.Perm ys) : sortT lt xs = ys :=
  sorted_eq h (sortT_pw h) hy (sortT_perm.trans p)
theorem asc_le (h : StO lt) (hy : ys.Pairwise fun a b => lt a b = true) : ys.Pairwise fun a b => lt b a = false := hy.imp fun q => h.asym q
theorem sortT_self (h : StO lt) (hy : ys.Pairwise fun a b => lt a b = true) : sortT lt ys = ys := sortT_of h (asc_le h hy) (List.Perm.refl _)
theorem sortT_asc (h : StO lt) (hx : xs.Nodup) : (sortT lt xs).Pairwise fun a b => lt a b = true := by
  have h2 : (sortT lt xs).Nodup := sortT_perm.nodup_iff.mpr hx
  refine ((sortT_pw h).and h2).imp fun {a b} q => ?_
  rcases h.tri a b with r | r | r
  · exact r
  · exact absurd r q.2
  · rw [q.1] at r; cases r
theorem sortT_nodup (hx : xs.Nodup) : (sortT lt xs).Nodup := sortT_perm.nodup_iff.mpr hx
/-! least -/
theorem minL_spec (h : StO lt) : ∀ (xs : List α) (x : α), minL lt x xs ∈ x :: xs ∧ ∀ y ∈ x :: xs, lt y (minL lt x xs) = false
  | [], x => ⟨List.mem_cons_self .., fun y hy => by
    rcases List.mem_cons.mp hy with rfl | hy
    · exact h.irr _
    · cases hy⟩
  | z :: zs, x => by
    obtain ⟨m, q⟩ := minL_spec h zs (if lt z x then z else x)
    have e : minL lt x (z :: zs) = minL lt (if lt z x then z else x) zs := rfl
    rw [e]
    have k : ∀ y, lt y (minL lt (if lt z x then z else x) zs) = true → lt y (if lt z x then z else x) = true := fun y hy => by
      have q0 := q _ (List.mem_cons_self ..)
      rcases h.tri (minL lt (if lt z x then z else x) zs) (if lt z x then z else x) with r | r | r
      · exact h.tr _ _ _ hy r
      · rw [r] at hy; exact hy
      · rw [q0] at r; cases r
    refine ⟨?_, fun y hy => ?_⟩
    · rcases List.mem_cons.mp m with r | r
      · rw [r]
        split
        · exact List.mem_cons_of_mem _ (List.mem_cons_self ..)
        · exact List.mem_cons_self ..
      · exact List.mem_cons_of_mem _ (List.mem_cons_of_mem _ r)
    · cases e2 : lt y (minL lt (if lt z x then z else x) zs) with
      | false => rfl
      | true =>
        have k1 := k y e2
        rcases List.mem_cons.mp hy with rfl | hy
        · by_cases c : lt z y = true
          · rw [if_pos c, h.asym c] at k1; cases k1
          · rw [if_neg c, h.irr] at k1; cases k1
        · rcases List.mem_cons.mp hy with rfl | hy
          · by_cases c : lt y x = true
            · rw [if_pos c, h.irr] at k1; cases k1
            · rw [if_neg c] at k1; exact absurd k1 c
          · rw [q y (List.mem_cons_of_mem _ hy)] at e2; cases e2
theorem minG_spec (h : StO lt) (hx : xs ≠ []) : ∃ m, minG lt xs = .ok m ∧ m ∈ xs ∧ ∀ y ∈ xs, lt y m = false := by
  cases xs with
  | nil => exact absurd rfl hx
  | cons x xs => exact ⟨_, rfl, minL_spec h xs x⟩
theorem minG_eq (h : StO lt) {m : α} (hm : m ∈ xs) (hl : ∀ y ∈ xs, lt y m = false) : minG lt xs = .ok m := by
  obtain ⟨k, e, hk, hkl⟩ := minG_spec h (List.ne_nil_of_mem hm)
  rw [e, h.anti (hl k hk) (hkl m hm)]
/-- the first of a row in order is the least -/
theorem head_least (h : StO lt) {x : α} (hx : (x :: xs).Pairwise fun a b => lt b a = false) : ∀ y ∈ x :: xs, lt y x = false := fun y hy => by
  rcases List.mem_cons.mp hy with rfl | hy
  · exact h.irr _
  · exact (List.pairwise_cons.mp hx).1 y hy
theorem sum_perm {xs ys : List Int} (p : xs.Perm ys) : xs.sum = ys.sum := by
  induction p with
  | nil => rfl
  | cons x _ ih => rw [List.sum_cons, List.sum_cons, ih]
  | swap x y l => simp only [List.sum_cons]; omega
  | trans _ _ a b => exact a.trans b
end
end Ty

set_option Elab.async false
set_option linter.all false
set_option maxRecDepth 100000
namespace Nk53
open PySem PySem.Spec PyProof.Rows L2 Den Ty
/-! ### groups, tilts -/
def wt (L S : List Int) (i : Int) : Int := L.getD i.toNat default * S.getD i.toNat default
def tlt (L S : List Int) (g : List Int) : Int := (g.map (wt L S)).sum
structure Hy (L S : List Int) (n : Nat) : Prop where
  ll : L.length = n
  ls : S.length = n
  n6 : n ≤ 6
  bl : ∀ x ∈ L, x.natAbs ≤ 1000
  bs : ∀ x ∈ S, x.natAbs ≤ 1000
theorem getD_mem {xs : List Int} {i : Nat} (h : i < xs.length) : xs.getD i default ∈ xs := by
  rw [List.getD_eq_getElem?_getD, List.getElem?_eq_getElem h]
  exact List.getElem_mem h
theorem wt_ok {L S : List Int} {n : Nat} (hy : Hy L S n) {i : Int} (h0 : 0 ≤ i) (h : i < n) : ((ixG L i) >>= fun (x7 : Int) => ((ixG S i) >>= fun (x8 : Int) => (mulG x7 x8))) = .ok (wt L S i) := by
  have h1 : i < L.length := by rw [hy.ll]; exact h
  have h2 : i < S.length := by rw [hy.ls]; exact h
  rw [ixG_ok h0 h1, ok_b, ixG_ok h0 h2, ok_b]
  have b1 := hy.bl _ (getD_mem (xs := L) (i := i.toNat) (by omega))
  have b2 := hy.bs _ (getD_mem (xs := S) (i := i.toNat) (by omega))
  exact mulG_ok (by omega) (by omega)
def Asc (n : Nat) (g : List Int) : Prop := g.Pairwise (· < ·) ∧ ∀ x ∈ g, 0 ≤ x ∧ x < (n : Int)
def rest (n : Nat) (o : List Int) : List Int := (irng 0 n).filter fun i => !decide (i ∈ o)
theorem mem_rest {n : Nat} {o : List Int} {i : Int} : i ∈ rest n o ↔ (0 ≤ i ∧ i < n) ∧ i ∉ o := by
  unfold rest
  rw [List.mem_filter, mem_irng, Bool.not_eq_true', decide_eq_false_iff_not]
theorem irng_nodup (lo hi : Int) : (irng lo hi).Nodup := (irng_asc lo hi).imp fun h => Int.ne_of_lt h
theorem rest_len {n : Nat} {o : List Int} (hn : o.Nodup) (hs : ∀ x ∈ o, 0 ≤ x ∧ x < (n : Int)) : o.length + (rest n o).length = n := by
  have p : ((irng 0 n).filter fun i => decide (i ∈ o)).Perm o := (List.perm_ext_iff_of_nodup ((irng_nodup 0 n).sublist (List.filter_sublist ..)) hn).mpr fun a => by
    rw [List.mem_filter, mem_irng, decide_eq_true_eq]
    exact ⟨fun h => h.2, fun h => ⟨hs a h, h⟩⟩
  have e := p.length_eq
  have c := List.length_eq_countP_add_countP (p := fun i => decide (i ∈ o)) (l := irng 0 n)
  rw [irng_len, List.countP_eq_length_filter, List.countP_eq_length_filter, e] at c
  unfold rest
  have e2 : (fun i => !decide (i ∈ o)) = fun a => decide ¬decide (a ∈ o) = true := by
    funext a
    by_cases h : a ∈ o <;> simp [h]
  rw [e2]
  omega
/-! ### all groups, the greater ones first -/
theorem asc_snoc {r pre : List Int} {k : Int} (hp : ∀ x ∈ pre, x < k) (h : r.Pairwise (· < ·)) (hr : ∀ x ∈ r, x ∈ pre ++ [k]) (hk : k ∈ r) : ∃ q, r = q ++ [k] ∧ q.Pairwise (· < ·) ∧ ∀ x ∈ q, x ∈ pre := by
  obtain ⟨a, b, rfl⟩ := List.append_of_mem hk
  rw [List.pairwise_append] at h
  obtain ⟨h1, h2, h3⟩ := h
  have hb : b = [] := by
    cases b with
    | nil => rfl
    | cons y b =>
      have y1 := (List.pairwise_cons.mp h2).1 y (List.mem_cons_self ..)
      have y2 := hr y (by simp)
      rw [List.mem_append, List.mem_singleton] at y2
      rcases y2 with y2 | y2
      · have := hp y y2; omega
      · omega
  subst hb
  refine ⟨a, rfl, h1, fun x hx => ?_⟩
  have x1 := h3 x hx k (List.mem_cons_self ..)
  have x2 := hr x (by simp [hx])
  rw [List.mem_append, List.mem_singleton] at x2
  rcases x2 with x2 | x2
  · exact x2
  · omega
def RowsOk (pre : List Int) (s : List (List Int)) : Prop := (∀ r, r ∈ s ↔ r.Pairwise (· < ·) ∧ ∀ x ∈ r, x ∈ pre) ∧ s.Nodup ∧ s.length = 2 ^ pre.length ∧ ∀ r ∈ s, r.length ≤ pre.length
theorem rows_ok {n : Nat} (hn : n ≤ 6) : ∃ s, forT (fun (x4 : Int) (s5 : (List (List Int))) =>
    (((compM s5 (fun (z7 : (List Int)) => ((catG z7 ([x4] : (List Int))) >>= fun y => .ok (some y)))) >>= fun (x8 : (List (List Int))) => (catG s5 x8)) >>= fun (rows9 : (List (List Int))) =>
  (.ok rows9))) (irng 0 n) [[]] = .ok s ∧ RowsOk (irng 0 n) s := by
  refine forT_ind RowsOk (irng 0 n) [] [[]] ⟨fun r => ?_, by simp, rfl, fun r hr => ?_⟩ ?_
  · rw [List.mem_singleton]
    constructor
    · rintro rfl; exact ⟨List.Pairwise.nil, fun x hx => by cases hx⟩
    · rintro ⟨_, h⟩
      cases r with
      | nil => rfl
      | cons x r => exact absurd (h x (List.mem_cons_self ..)) (by simp)
  · rw [List.mem_singleton] at hr; subst hr; exact Nat.le_refl _
  · intro p k r s e ⟨h1, h2, h3, h4⟩
    rw [List.nil_append] at e
    have hl : (irng 0 (n : Int)).length ≤ 6 := by rw [irng_len]; omega
    have hp : p.length + 1 ≤ 6 := by
      rw [e, List.length_append, List.length_cons] at hl
      omega
    have hpow : 2 ^ p.length ≤ 2 ^ 5 := Nat.pow_le_pow_right (by decide) (by omega)
    have hs : s.length ≤ 32 := by rw [h3]; exact hpow
    have hk : ∀ x ∈ p, x < k := by
      have := irng_asc 0 (n : Int)
      rw [e, List.pairwise_append] at this
      exact fun x hx => this.2.2 x hx k (List.mem_cons_self ..)
    have hkp : k ∉ p := fun h => by have := hk k h; omega
    refine ⟨s ++ s.map (· ++ [k]), ?_, fun r => ?_, ?_, ?_, ?_⟩
    · rw [compM_map (g := fun z => z ++ [k]) (fun z hz => ?_) (by omega), ok_b, catG_ok (by rw [List.length_map]; omega)]; rfl
      have := h4 z hz
      rw [catG_ok (by simp; omega)]; rfl
    · rw [List.mem_append, h1, List.mem_map]
      constructor
      · rintro (⟨a, b⟩ | ⟨q, hq, rfl⟩)
        · exact ⟨a, fun x hx => List.mem_append_left _ (b x hx)⟩
        · obtain ⟨a, b⟩ := (h1 q).mp hq
          refine ⟨List.pairwise_append.mpr ⟨a, List.pairwise_singleton .., fun x hx y hy => ?_⟩, fun x hx => ?_⟩
          · rw [List.mem_singleton] at hy
            subst hy
            exact hk x (b x hx)
          · rw [List.mem_append] at hx ⊢
            exact hx.imp_left (b x)
      · rintro ⟨a, b⟩
        by_cases hkr : k ∈ r
        · obtain ⟨q, rfl, q1, q2⟩ := asc_snoc hk a b hkr
          exact .inr ⟨q, (h1 q).mpr ⟨q1, q2⟩, rfl⟩
        · refine .inl ⟨a, fun x hx => ?_⟩
          have := b x hx
          rw [List.mem_append, List.mem_singleton] at this
          rcases this with h | rfl
          · exact h
          · exact absurd hx hkr
    · rw [List.nodup_append]
      refine ⟨h2, ?_, ?_⟩
      · exact List.Pairwise.map _ (fun a b hab q => hab (by simpa using q)) h2
      · rintro a ha b hb rfl
        obtain ⟨q, _, rfl⟩ := List.mem_map.mp hb
        exact hkp (((h1 _).mp ha).2 k (by simp))
    · rw [List.length_append, List.length_map, h3, List.length_append]
      show _ = 2 ^ (p.length + 1)
      rw [Nat.pow_succ]; omega
    · intro r hr
      rw [List.length_append]
      rcases List.mem_append.mp hr with h | h
      · have := h4 r h; simp; omega
      · obtain ⟨q, hq, rfl⟩ := List.mem_map.mp h
        have := h4 q hq
        simp; omega
def SubsOk (n : Nat) (s : List (List Int)) : Prop := (∀ r, r ∈ s ↔ Asc n r) ∧ s.Nodup ∧ s.length ≤ 64 ∧ s.Pairwise fun a b => b.length ≤ a.length
theorem subsets_ok {n : Nat} (hn : n ≤ 6) : ∃ s, tf__subsets (n : Int) = .ok s ∧ SubsOk n s := by
  obtain ⟨s, e, h1, h2, h3, h4⟩ := rows_ok hn
  have hl : (irng 0 (n : Int)).length ≤ 6 := by rw [irng_len]; omega
  have hs : s.length ≤ 64 := by
    rw [h3]
    exact Nat.pow_le_pow_right (by decide) hl
  have so := stP2 stInt (stLex stInt)
  refine ⟨(sortT (ltP2 ltInt (lexL ltInt)) (s.map fun r => ((0 : Int) - (r.length : Int), r))).map (·.2), ?_, ?_, ?_, ?_, ?_⟩
  · unfold tf__subsets
    rw [ok_b, rangeG_ok (by decide) (by omega), ok_b, e, ok_b, lenG_ok (by rw [List.length_map]; omega), ok_b, ok_b, ok_b]
    exact lenG_ok (by rw [List.length_map, sortT_len, List.length_map]; omega)
  · intro r
    rw [List.mem_map]
    constructor
    · rintro ⟨p, hp, rfl⟩
      rw [mem_sortT, List.mem_map] at hp
      obtain ⟨q, hq, rfl⟩ := hp
      obtain ⟨a, b⟩ := (h1 q).mp hq
      exact ⟨a, fun x hx => mem_irng.mp (b x hx)⟩
    · rintro ⟨a, b⟩
      exact ⟨(0 - (r.length : Int), r), mem_sortT.mpr (List.mem_map.mpr ⟨r, (h1 r).mpr ⟨a, fun x hx => mem_irng.mpr (b x hx)⟩, rfl⟩), rfl⟩
  · have p := (sortT_perm (lt := ltP2 ltInt (lexL ltInt)) (xs := s.map fun r => ((0 : Int) - (r.length : Int), r))).map (·.2)
    rw [List.map_map] at p
    have e2 : ((fun x : Int × List Int => x.2) ∘ fun r : List Int => ((0 : Int) - (r.length : Int), r)) = id := rfl
    rw [e2, List.map_id] at p
    exact p.nodup_iff.mpr h2
  · rw [List.length_map, sortT_len, List.length_map]; exact hs
  · rw [List.pairwise_map]
    have hm : ∀ p ∈ sortT (ltP2 ltInt (lexL ltInt)) (s.map fun r => ((0 : Int) - (r.length : Int), r)), p.1 = 0 - (p.2.length : Int) := fun p hp => by
      rw [mem_sortT, List.mem_map] at hp
      obtain ⟨q, _, rfl⟩ := hp
      rfl
    refine (sortT_pw so).imp_of_mem fun {a b} ha hb q => ?_
    have a1 := hm a ha
    have b1 := hm b hb
    unfold ltP2 at q
    by_cases c : b.1 = a.1
    · omega
    · rw [if_neg c] at q
      unfold ltInt at q
      have := of_decide_eq_false q
      omega
end Nk53

set_option Elab.async false
set_option linter.all false
set_option maxRecDepth 100000
namespace Nk53
open PySem PySem.Spec PyProof.Rows L2 Den Ty
/-! ### the dict of the groups that may stand -/
def K (o : List Int) : List Int := sortT ltInt o
def VF (n : Nat) (L S : List Int) (most : Int) : Nat → List Int → Option (List Int)
  | 0, g => if absI (tlt L S g) ≤ most then some [] else none
  | k + 1, g => if absI (tlt L S g) ≤ most then
      (if (rest n g).filter (fun i => (VF n L S most k (K (g ++ [i]))).isSome) ≠ [] then some ((rest n g).filter fun i => (VF n L S most k (K (g ++ [i]))).isSome) else none) else none
theorem Asc.nodup {n : Nat} {g : List Int} (h : Asc n g) : g.Nodup := h.1.imp fun h => Int.ne_of_lt h
theorem K_asc {n : Nat} {o : List Int} (hn : o.Nodup) (hs : ∀ x ∈ o, 0 ≤ x ∧ x < (n : Int)) : Asc n (K o) :=
  ⟨(sortT_asc stInt hn).imp fun h => of_decide_eq_true h, fun x hx => hs x (mem_sortT.mp hx)⟩
theorem snoc_nodup {n : Nat} {o : List Int} {i : Int} (hn : o.Nodup) (hi : i ∈ rest n o) : (o ++ [i]).Nodup := by
  rw [List.nodup_append]
  refine ⟨hn, by simp, fun a ha b hb => ?_⟩
  rw [List.mem_singleton] at hb
  subst hb
  intro z
  subst z
  exact (mem_rest.mp hi).2 ha
theorem snoc_sub {n : Nat} {o : List Int} {i : Int} (hs : ∀ x ∈ o, 0 ≤ x ∧ x < (n : Int)) (hi : i ∈ rest n o) : ∀ x ∈ o ++ [i], 0 ≤ x ∧ x < (n : Int) := fun x hx => by
  rcases List.mem_append.mp hx with h | h
  · exact hs x h
  · rw [List.mem_singleton] at h; subst h; exact (mem_rest.mp hi).1
def GoodAt (n : Nat) (L S : List Int) (most : Int) (pre : List (List Int)) (m : List (List Int × List Int)) : Prop :=
  (∀ h, getT m h = if h ∈ pre then VF n L S most (n - h.length) h else none) ∧ m.length ≤ pre.length
theorem filter_map_id {xs : List Int} {p : Int → Bool} : ((xs.filter p).map fun (z : Int) => z) = xs.filter p := List.map_id' _
theorem dict_ok {L S : List Int} {n : Nat} (hy : Hy L S n) (most : Int) {subs : List (List Int)} (hs : SubsOk n subs) : ∃ m, forT (fun (x4 : (List Int)) (s5 : (List ((List Int) × (List Int)))) =>
    (((((compM x4 (fun (z7 : Int) => (((ixG L z7) >>= fun (x8 : Int) => ((ixG S z7) >>= fun (x9 : Int) => (mulG x8 x9))) >>= fun y => .ok (some y)))) >>= fun (x10 : (List Int)) => (.ok x10.sum : Rs Int)) >>= fun (x11 : Int) => (.ok (absI x11) : Rs Int)) >>= fun (x12 : Int) => (.ok (decide (x12 ≤ most)) : Rs Bool)) >>= fun (c22 : Bool) => if c22 then (((rangeG 0 (L.length : Int)) >>= fun (xs13 : (List Int)) => (lenG ((xs13.filter (fun (z14 : Int) => (!(decide (z14 ∈ x4))))).map (fun (z14 : Int) => z14)))) >>= fun (rest15 : (List Int)) =>
  ((compM rest15 (fun (z16 : Int) => (((((catG x4 ([z16] : (List Int))) >>= fun (x17 : (List Int)) => (.ok (sortT ltInt x17) : Rs (List Int))) >>= fun (x18 : (List Int)) => (.ok x18 : Rs (List Int))) >>= fun (x19 : (List Int)) => (.ok (hasT s5 x19) : Rs Bool)) >>= fun p => if p then (.ok z16 : Rs Int) >>= fun y => .ok (some y) else .ok none))) >>= fun (nexts20 : (List Int)) =>
  (if ((decide ((rest15.length : Int) = (0 : Int))) || (decide ((0 : Int) < (nexts20.length : Int)))) then ((.ok nexts20 : Rs (List Int)) >>= fun v => (.ok x4 : Rs (List Int)) >>= fun k => putG s5 k v >>= fun (good21 : (List ((List Int) × (List Int)))) =>
  (.ok good21))
  else (.ok s5))))
  else (.ok s5))) subs ([] : (List ((List Int) × (List Int)))) = .ok m ∧ GoodAt n L S most subs m := by
  refine forT_ind (GoodAt n L S most) subs [] [] ⟨fun h => by rw [getT_nil, if_neg (by simp)], Nat.le_refl _⟩ ?_
  intro p g r m e ⟨h1, h2⟩
  rw [List.nil_append] at e
  obtain ⟨sm, sn, sl, sp⟩ := hs
  have hg : Asc n g := (sm g).mp (by rw [e]; simp)
  have hlen := rest_len hg.nodup hg.2
  have n6 := hy.n6
  have hpl : p.length ≤ 64 := by rw [e, List.length_append] at sl; omega
  have hgp : g ∉ p := fun z => by
    rw [e, List.nodup_append] at sn
    exact sn.2.2 g z g (List.mem_cons_self ..) rfl
  have step1 : compM g (fun (z7 : Int) => (((ixG L z7) >>= fun (x8 : Int) => ((ixG S z7) >>= fun (x9 : Int) => (mulG x8 x9))) >>= fun y => .ok (some y))) = .ok (g.map (wt L S)) := by
    refine compM_map (g := wt L S) (fun z hz => ?_) (by omega)
    have := hg.2 z hz
    rw [wt_ok hy this.1 this.2]; rfl
  have keep : ∀ h, h ≠ g → (h ∈ p ++ [g] ↔ h ∈ p) := fun h hh => by
    rw [List.mem_append, List.mem_singleton]
    exact ⟨fun z => z.elim id fun z => absurd z hh, .inl⟩
  have none_case : VF n L S most (n - g.length) g = none → GoodAt n L S most (p ++ [g]) m := fun hv => ⟨fun h => by
    rw [h1]
    by_cases c : h = g
    · subst c
      rw [if_neg hgp, if_pos (by simp), hv]
    · simp only [keep h c], by rw [List.length_append]; omega⟩
  simp only [step1, ok_b]
  show ∃ s', (if decide (absI (tlt L S g) ≤ most) = true then _ else _) = _ ∧ _
  by_cases c : absI (tlt L S g) ≤ most
  · rw [if_pos (decide_eq_true c), rangeG_ok (by decide) (by rw [hy.ll]; omega), ok_b, filter_map_id, hy.ll]
    have hr : (irng 0 (n : Int)).filter (fun i => !decide (i ∈ g)) = rest n g := rfl
    rw [hr, lenG_ok (by omega), ok_b]
    have hf : ∀ z ∈ rest n g, (((((catG g ([z] : (List Int))) >>= fun (x17 : (List Int)) => (.ok (sortT ltInt x17) : Rs (List Int))) >>= fun (x18 : (List Int)) => (.ok x18 : Rs (List Int))) >>= fun (x19 : (List Int)) => (.ok (hasT m x19) : Rs Bool)) >>= fun p => if p then (.ok (some z) : Rs (Option Int)) else .ok none) = .ok (if hasT m (K (g ++ [z])) then some z else none) := fun z hz => by
      rw [catG_ok (by simp; omega), ok_b, ok_b, ok_b, ok_b]
      show (if hasT m (K (g ++ [z])) then _ else _) = _
      split <;> rfl
    rw [compM_if (p := fun z => hasT m (K (g ++ [z]))) (g := fun z => z) hf (by omega), ok_b, filter_map_id]
    by_cases hk : n - g.length = 0
    · have r0 : rest n g = [] := List.eq_nil_of_length_eq_zero (by omega)
      rw [r0]
      show ∃ s', (putG m g [] >>= _) = _ ∧ _
      rw [putG_ok (by omega)]
      refine ⟨_, rfl, fun h => ?_, ?_⟩
      · rw [getT_put]
        by_cases c2 : g = h
        · subst c2
          rw [if_pos rfl, if_pos (by simp), hk, VF, if_pos c]
        · rw [if_neg c2, h1]
          simp only [keep h fun z => c2 z.symm]
      · have := putT_len m g []
        rw [List.length_append]; simp; omega
    · obtain ⟨k, ek⟩ : ∃ k, n - g.length = k + 1 := ⟨n - g.length - 1, by omega⟩
      have hrn : (rest n g).length = k + 1 := by omega
      have fe : (rest n g).filter (fun z => hasT m (K (g ++ [z]))) = (rest n g).filter fun i => (VF n L S most k (K (g ++ [i]))).isSome := by
        refine List.filter_congr fun z hz => ?_
        have hA : Asc n (K (g ++ [z])) := K_asc (snoc_nodup hg.nodup hz) (snoc_sub hg.2 hz)
        have hl : (K (g ++ [z])).length = g.length + 1 := by
          show (sortT ltInt _).length = _
          rw [sortT_len, List.length_append]; rfl
        have hin : K (g ++ [z]) ∈ p := by
          have := (sm (K (g ++ [z]))).mpr hA
          rw [e, List.mem_append, List.mem_cons] at this
          rw [e, List.pairwise_append, List.pairwise_cons] at sp
          rcases this with h | h | h
          · exact h
          · rw [h] at hl; omega
          · have := sp.2.1.1 _ h; omega
        unfold hasT
        rw [h1, if_pos hin, hl]
        have : n - (g.length + 1) = k := by omega
        rw [this]
      rw [fe]
      have d1 : decide (((rest n g).length : Int) = 0) = false := decide_eq_false (by omega)
      rw [d1, Bool.false_or]
      by_cases c3 : (rest n g).filter (fun i => (VF n L S most k (K (g ++ [i]))).isSome) ≠ []
      · have c4 : (0 : Int) < (((rest n g).filter (fun i => (VF n L S most k (K (g ++ [i]))).isSome)).length : Int) := by
          have := List.length_pos_iff.mpr c3
          omega
        rw [if_pos (decide_eq_true c4)]
        show ∃ s', (putG m g _ >>= _) = _ ∧ _
        rw [putG_ok (by omega)]
        refine ⟨_, rfl, fun h => ?_, ?_⟩
        · rw [getT_put]
          by_cases c2 : g = h
          · subst c2
            rw [if_pos rfl, if_pos (by simp), ek, VF, if_pos c, if_pos c3]
          · rw [if_neg c2, h1]
            simp only [keep h fun z => c2 z.symm]
        · have := putT_len m g ((rest n g).filter (fun i => (VF n L S most k (K (g ++ [i]))).isSome))
          rw [List.length_append]; simp; omega
      · have c4 : ¬ (0 : Int) < (((rest n g).filter (fun i => (VF n L S most k (K (g ++ [i]))).isSome)).length : Int) := by
          rw [Classical.not_not.mp c3]; decide
        rw [if_neg (by rw [decide_eq_false c4]; decide)]
        refine ⟨_, rfl, none_case ?_⟩
        rw [ek, VF, if_pos c, if_neg c3]
  · rw [if_neg (by rw [decide_eq_false c]; decide)]
    refine ⟨_, rfl, none_case ?_⟩
    cases n - g.length with
    | zero => rw [VF, if_neg c]
    | succ k => rw [VF, if_neg c]
/-! ### the first order that stands -/
def fst (n : Nat) (L S : List Int) (most : Int) : Nat → List Int → Option (List Int)
  | 0, o => if absI (tlt L S o) ≤ most then some o else none
  | k + 1, o => if absI (tlt L S o) ≤ most then (rest n o).findSome? fun i => fst n L S most k (o ++ [i]) else none
theorem findSome_filter {α β : Type} {f : α → Option β} : ∀ xs : List α, xs.findSome? f = (xs.filter fun i => (f i).isSome).findSome? f
  | [] => rfl
  | x :: xs => by
    rw [List.findSome?_cons, List.filter_cons]
    cases e : f x with
    | none => exact findSome_filter xs
    | some y =>
      show some y = List.findSome? f (x :: _)
      rw [List.findSome?_cons, e]
theorem findSome_some {α β : Type} {f : α → Option β} {xs : List α} : (xs.findSome? f).isSome = decide (xs.filter (fun i => (f i).isSome) ≠ []) := by
  induction xs with
  | nil => rfl
  | cons x xs ih =>
    rw [List.findSome?_cons, List.filter_cons]
    cases e : f x with
    | none => exact ih
    | some y => rfl
theorem tlt_perm {L S a b : List Int} (p : a.Perm b) : tlt L S a = tlt L S b := sum_perm (p.map _)
theorem K_perm {o : List Int} : (K o).Perm o := sortT_perm
theorem rest_perm {n : Nat} {a b : List Int} (p : a.Perm b) : rest n a = rest n b := by
  unfold rest
  refine List.filter_congr fun i _ => ?_
  rw [decide_eq_decide.mpr p.mem_iff]
theorem K_congr {a b : List Int} (p : a.Perm b) : K a = K b := sortT_congr stInt p
theorem VF_fst {n : Nat} {L S : List Int} {most : Int} : ∀ (k : Nat) (o : List Int), (VF n L S most k (K o)).isSome = (fst n L S most k o).isSome
  | 0, o => by
    rw [VF, fst, tlt_perm K_perm]
    split <;> rfl
  | k + 1, o => by
    rw [VF, fst, tlt_perm K_perm, rest_perm K_perm]
    have e : ((rest n o).filter fun i => (VF n L S most k (K (K o ++ [i]))).isSome) = (rest n o).filter fun i => (fst n L S most k (o ++ [i])).isSome := by
      refine List.filter_congr fun i _ => ?_
      rw [K_congr (K_perm.append_right [i]), VF_fst k]
    rw [e]
    split
    · rw [findSome_some]
      split
      · rename_i h; rw [decide_eq_true h]; rfl
      · rename_i h; rw [decide_eq_false h]; rfl
    · rfl
theorem VF_next {n : Nat} {L S : List Int} {most : Int} {k : Nat} {o r : List Int} (h : fst n L S most (k + 1) o = some r) : ∃ i xs, VF n L S most (k + 1) (K o) = some (i :: xs) ∧ i ∈ rest n o ∧ fst n L S most k (o ++ [i]) = some r := by
  have e : ((rest n o).filter fun i => (VF n L S most k (K (K o ++ [i]))).isSome) = (rest n o).filter fun i => (fst n L S most k (o ++ [i])).isSome := by
    refine List.filter_congr fun i _ => ?_
    rw [K_congr (K_perm.append_right [i]), VF_fst k]
  rw [VF, tlt_perm K_perm, rest_perm K_perm, e]
  rw [fst] at h
  split at h
  · rename_i c
    rw [if_pos c]
    rw [findSome_filter] at h
    cases q : (rest n o).filter (fun i => (fst n L S most k (o ++ [i])).isSome) with
    | nil => rw [q] at h; cases h
    | cons i xs =>
      rw [q, List.findSome?_cons] at h
      have hi : i ∈ (rest n o).filter fun i => (fst n L S most k (o ++ [i])).isSome := by rw [q]; exact List.mem_cons_self ..
      rw [List.mem_filter] at hi
      obtain ⟨y, ey⟩ := Option.isSome_iff_exists.mp hi.2
      rw [ey] at h
      cases h
      exact ⟨i, xs, if_pos (by simp), hi.1, ey⟩
  · cases h
theorem greedy_ok {n : Nat} {L S : List Int} {most : Int} {m : List (List Int × List Int)} (hL : L.length = n) (n6 : n ≤ 6) {subs : List (List Int)} (hs : SubsOk n subs) (hm : GoodAt n L S most subs m) : ∀ (k : Nat) (o r : List Int) (f : Nat), o.Nodup → (∀ x ∈ o, 0 ≤ x ∧ x < (n : Int)) → o.length + k = n → fst n L S most k o = some r →
    whileT (fun (s29 : (List Int)) => (.ok (decide ((s29.length : Int) < (L.length : Int))) : Rs Bool)) (fun (s29 : (List Int)) =>
    (((((atG m (sortT ltInt s29)) >>= fun (x31 : (List Int)) => (ixG x31 (0 : Int))) >>= fun (x32 : Int) => (.ok ([x32] : (List Int)) : Rs (List Int))) >>= fun (x33 : (List Int)) => (catG s29 x33)) >>= fun (order34 : (List Int)) =>
  (.ok order34))) (k + 1 + f) o = .ok r
  | 0, o, r, f, _, _, hl, h => by
    rw [fst] at h
    split at h
    · cases h
      have : (0 + 1 + f) = f + 1 := by omega
      rw [this]
      exact whileT_stop (by rw [decide_eq_false (by omega)])
    · cases h
  | k + 1, o, r, f, hn, ho, hl, h => by
    obtain ⟨i, xs, hv, hi, h'⟩ := VF_next h
    have hK : K o ∈ subs := (hs.1 _).mpr (K_asc hn ho)
    have hKl : (K o).length = o.length := K_perm.length_eq
    have hg : getT m (sortT ltInt o) = some (i :: xs) := by
      show getT m (K o) = _
      rw [hm.1, if_pos hK, hKl]
      have : n - o.length = k + 1 := by omega
      rw [this]; exact hv
    have e1 : (k + 1 + 1 + f) = (k + 1 + f) + 1 := by omega
    rw [e1, whileT_step (s' := o ++ [i]) (by rw [decide_eq_true (by omega)]) (by rw [atG_some hg, ok_b, ixG_zero, ok_b, ok_b, catG_ok (by simp; omega), ok_b])]
    exact greedy_ok hL n6 hs hm k (o ++ [i]) r f (snoc_nodup hn hi) (snoc_sub ho hi) (by rw [List.length_append]; simp; omega) h'
theorem boarding_fst {L S : List Int} {n : Nat} (hy : Hy L S n) (most : Int) : tf__boarding L S most = .ok (fst n L S most n []) := by
  obtain ⟨subs, es, hs⟩ := subsets_ok hy.n6
  obtain ⟨m, em, hm⟩ := dict_ok hy most hs
  unfold tf__boarding
  rw [hy.ll, es, ok_b, ok_b]
  have em2 := em
  rw [hy.ll] at em2
  rw [em2, ok_b]
  have h0 : hasT m [] = (fst n L S most n []).isSome := by
    unfold hasT
    have a0 : Asc n [] := ⟨List.Pairwise.nil, fun x hx => by cases hx⟩
    rw [hm.1, if_pos ((hs.1 []).mpr a0)]
    have := VF_fst (n := n) (L := L) (S := S) (most := most) n []
    rw [← this]
    have hk : K [] = [] := List.mergeSort_nil
    show (VF n L S most (n - 0) []).isSome = _
    rw [hk, Nat.sub_zero]
  rw [h0]
  cases q : fst n L S most n [] with
  | none => rfl
  | some r =>
    rw [if_neg (by simp), ok_b]
    have g := greedy_ok hy.ll hy.n6 hs hm n [] r (999 - n) (by simp) (fun x hx => by cases hx) (by simp) q
    have hn : n + 1 + (999 - n) = 1000 := by have := hy.n6; omega
    rw [hn, hy.ll] at g
    rw [g]; rfl
end Nk53

set_option Elab.async false
set_option linter.all false
set_option maxRecDepth 100000
namespace Nk53
open PySem PySem.Spec PyProof.Rows L2 Den Ty
/-! ### all orders -/
def Tr (n : Nat) : Nat → List Int → List (List Int)
  | 0, o => [o]
  | k + 1, o => (rest n o).flatMap fun i => Tr n k (o ++ [i])
def ch (n : Nat) (o : List Int) : List (List Int) := (rest n o).map fun i => o ++ [i]
def Bq (n : Nat) : Nat → List (List Int)
  | 0 => [[]]
  | j + 1 => (Bq n j).flatMap (ch n)
theorem Tr_ch (n k : Nat) (o : List Int) : Tr n (k + 1) o = (ch n o).flatMap (Tr n k) := by
  rw [Tr]
  unfold ch
  rw [List.flatMap_map]
theorem Bq_Tr (n : Nat) : ∀ (j k : Nat), (Bq n j).flatMap (Tr n k) = Tr n (j + k) []
  | 0, k => by
    rw [Bq, Nat.zero_add]
    show Tr n k [] ++ [] = _
    rw [List.append_nil]
  | j + 1, k => by
    rw [Bq, List.flatMap_assoc]
    have : (fun x => (ch n x).flatMap (Tr n k)) = Tr n (k + 1) := funext fun o => (Tr_ch n k o).symm
    rw [this, Bq_Tr n j (k + 1)]
    congr 1
    omega
theorem Bq_all (n : Nat) : Bq n n = Tr n n [] := by
  have := Bq_Tr n n 0
  have e : (Tr n 0) = fun o => [o] := rfl
  rw [e] at this
  rw [← List.flatMap_singleton' (Bq n n)]
  exact this
theorem ch_len (n : Nat) (o : List Int) : (ch n o).length ≤ n := by
  unfold ch rest
  rw [List.length_map]
  refine Nat.le_trans (List.length_filter_le _ _) ?_
  rw [irng_len]; omega
theorem fl_len {α β : Type} (f : α → List β) (n : Nat) (h : ∀ x, (f x).length ≤ n) : ∀ xs : List α, (xs.flatMap f).length ≤ xs.length * n
  | [] => by simp
  | x :: xs => by
    rw [List.flatMap_cons, List.length_append, List.length_cons, Nat.succ_mul]
    have := fl_len f n h xs
    have := h x
    omega
theorem Bq_len (n : Nat) : ∀ j, (Bq n j).length ≤ n ^ j
  | 0 => Nat.le_refl _
  | j + 1 => by
    rw [Bq, Nat.pow_succ]
    exact Nat.le_trans (fl_len (ch n) n (ch_len n) _) (Nat.mul_le_mul_right _ (Bq_len n j))
theorem Bq_row (n : Nat) : ∀ j, ∀ r ∈ Bq n j, r.length = j
  | 0, r, h => by
    rw [Bq, List.mem_singleton] at h
    subst h; rfl
  | j + 1, r, h => by
    rw [Bq, List.mem_flatMap] at h
    obtain ⟨q, hq, h⟩ := h
    unfold ch at h
    obtain ⟨i, _, rfl⟩ := List.mem_map.mp h
    rw [List.length_append, Bq_row n j q hq]; rfl
theorem orders_ok {n : Nat} (hn : n ≤ 6) : tf__law_orders (n : Int) = .ok (Tr n n []) := by
  have hl : (irng 0 (n : Int)).length = n := by rw [irng_len]; omega
  have main : ∃ s, forT (fun (x4 : Int) (s5 : (List (List Int))) =>
    ((.ok ([] : (List (List Int))) : Rs (List (List Int))) >>= fun (longer7 : (List (List Int))) =>
  (forT (fun (x10 : (List Int)) (s11 : (List (List Int))) =>
    ((((rangeG 0 (n : Int)) >>= fun (xs13 : (List Int)) => (compM xs13 (fun (z14 : Int) => (if (!(decide (z14 ∈ x10))) then (catG x10 ([z14] : (List Int))) >>= fun y => .ok (some y) else .ok none)))) >>= fun (x15 : (List (List Int))) => (catG s11 x15)) >>= fun (longer16 : (List (List Int))) =>
  (.ok longer16))) s5 longer7 >>= (fun (s17 : (List (List Int))) =>
  ((.ok s17 : Rs (List (List Int))) >>= fun (rows19 : (List (List Int))) =>
  (.ok rows19)))))) (irng 0 n) [[]] = .ok s ∧ s = Bq n (irng 0 (n : Int)).length := by
    refine forT_ind (fun pre s => s = Bq n pre.length) (irng 0 n) [] [[]] rfl ?_
    intro p x r s e hs
    rw [List.nil_append] at e
    have hp : p.length + 1 ≤ n := by
      rw [e, List.length_append, List.length_cons] at hl
      omega
    have hb : s.length ≤ 6 ^ 5 := by
      rw [hs]
      refine Nat.le_trans (Bq_len n _) (Nat.le_trans (Nat.pow_le_pow_left hn _) (Nat.pow_le_pow_right (by decide) (by omega)))
    have hrow : ∀ q ∈ s, q.length ≤ 6 := fun q hq => by
      rw [hs] at hq
      rw [Bq_row n _ q hq]
      omega
    have inner : ∃ s', forT (fun (x10 : (List Int)) (s11 : (List (List Int))) =>
    ((((rangeG 0 (n : Int)) >>= fun (xs13 : (List Int)) => (compM xs13 (fun (z14 : Int) => (if (!(decide (z14 ∈ x10))) then (catG x10 ([z14] : (List Int))) >>= fun y => .ok (some y) else .ok none)))) >>= fun (x15 : (List (List Int))) => (catG s11 x15)) >>= fun (longer16 : (List (List Int))) =>
  (.ok longer16))) s [] = .ok s' ∧ s' = s.flatMap (ch n) := by
      refine forT_ind (fun pre t => t = pre.flatMap (ch n)) s [] [] rfl ?_
      intro p2 q r2 t e2 ht
      rw [List.nil_append] at e2
      have hq : q.length ≤ 6 := hrow q (by rw [e2]; simp)
      have hcomp : compM (irng 0 (n : Int)) (fun (z14 : Int) => (if (!(decide (z14 ∈ q))) then (catG q ([z14] : (List Int))) >>= fun y => .ok (some y) else .ok none)) = .ok (ch n q) := by
        refine compM_if (p := fun z => !decide (z ∈ q)) (g := fun z => q ++ [z]) (fun z _ => ?_) (by omega)
        rw [catG_ok (by simp; omega), ok_b]
        split <;> rfl
      have ht2 : t.length ≤ 6 ^ 5 * 6 := by
        rw [ht]
        refine Nat.le_trans (fl_len (ch n) n (ch_len n) p2) (Nat.mul_le_mul ?_ hn)
        rw [e2, List.length_append] at hb
        omega
      have hc := ch_len n q
      have k5 : (6 : Nat) ^ 5 * 6 = 46656 := by decide
      refine ⟨t ++ ch n q, ?_, ?_⟩
      · rw [rangeG_ok (by decide) (by omega), ok_b, hcomp, ok_b, catG_ok (by omega)]; rfl
      · rw [ht, List.flatMap_append, List.flatMap_cons, List.flatMap_nil, List.append_nil]
    obtain ⟨s', e', hs'⟩ := inner
    refine ⟨s', ?_, ?_⟩
    · rw [ok_b, e']; rfl
    · rw [hs', List.length_append, hs]; rfl
  obtain ⟨s, e, hs⟩ := main
  unfold tf__law_orders
  rw [ok_b]
  refine (bind_eq (rangeG_ok (by decide) (by omega))).trans ?_
  rw [e, ok_b, hs, hl, Bq_all]
/-! ### the worst tilt on the way -/
def wst (L S : List Int) (o : List Int) : Int × Int := o.foldl (fun s i => (s.1 + wt L S i, max (max s.2 (s.1 + wt L S i)) (0 - (s.1 + wt L S i)))) (0, 0)
theorem worst_ok {L S : List Int} {n : Nat} (hy : Hy L S n) {o : List Int} (ho : ∀ x ∈ o, 0 ≤ x ∧ x < (n : Int)) : tf__law_worst L S o = .ok (wst L S o).2 := by
  unfold tf__law_worst
  rw [ok_b]
  have h : forT (fun (x4 : Int) (s5 : (Int × Int)) =>
    ((((ixG L x4) >>= fun (x7 : Int) => ((ixG S x4) >>= fun (x8 : Int) => (mulG x7 x8))) >>= fun (x9 : Int) => (.ok (s5.1 + x9) : Rs Int)) >>= fun (now10 : Int) =>
  ((.ok (max (max s5.2 now10) ((0 : Int) - now10)) : Rs Int) >>= fun (worst11 : Int) =>
  (.ok (now10, worst11))))) o ((0 : Int), (0 : Int)) = .ok (wst L S o) := forT_fold fun x hx s => by
      rw [wt_ok hy (ho x hx).1 (ho x hx).2, ok_b, ok_b, ok_b]
  rw [h]; rfl
theorem wst_snoc {L S o : List Int} {i : Int} : wst L S (o ++ [i]) = ((wst L S o).1 + wt L S i, max (max (wst L S o).2 ((wst L S o).1 + wt L S i)) (0 - ((wst L S o).1 + wt L S i))) := by
  unfold wst
  rw [List.foldl_append]; rfl
theorem tlt_snoc {L S o : List Int} {i : Int} : tlt L S (o ++ [i]) = tlt L S o + wt L S i := by
  unfold tlt
  rw [List.map_append, List.sum_append]; simp
theorem snoc_ind {P : List Int → Prop} (h0 : P []) (h1 : ∀ o i, P o → P (o ++ [i])) (o : List Int) : P o := by
  rw [← List.reverse_reverse o]
  induction o.reverse with
  | nil => exact h0
  | cons i r ih => rw [List.reverse_cons]; exact h1 _ _ ih
theorem wst_fst {L S : List Int} (o : List Int) : (wst L S o).1 = tlt L S o := by
  refine snoc_ind (P := fun o => (wst L S o).1 = tlt L S o) rfl (fun o i h => ?_) o
  rw [wst_snoc, tlt_snoc, h]
theorem absI_le {x m : Int} : absI x ≤ m ↔ x ≤ m ∧ 0 - x ≤ m := by
  unfold absI
  split <;> omega
theorem wst_le {L S o : List Int} {i m : Int} : (wst L S (o ++ [i])).2 ≤ m ↔ (wst L S o).2 ≤ m ∧ absI (tlt L S (o ++ [i])) ≤ m := by
  rw [wst_snoc, absI_le, tlt_snoc, wst_fst]
  show max (max _ _) _ ≤ m ↔ _
  omega
theorem wst_last {L S : List Int} {m : Int} (o : List Int) (h : (wst L S o).2 ≤ m) : absI (tlt L S o) ≤ m := by
  revert h
  refine snoc_ind (P := fun o => (wst L S o).2 ≤ m → absI (tlt L S o) ≤ m) (fun h => h) (fun o i _ h => (wst_le.mp h).2) o
theorem Tr_none {n : Nat} {L S : List Int} {m : Int} : ∀ (k : Nat) (o : List Int), ¬ (wst L S o).2 ≤ m → (Tr n k o).find? (fun o => decide ((wst L S o).2 ≤ m)) = none
  | 0, o, h => by
    rw [Tr, List.find?_cons, decide_eq_false h]; rfl
  | k + 1, o, h => by
    rw [Tr, List.find?_flatMap]
    exact List.findSome?_eq_none_iff.mpr fun i _ => Tr_none k _ fun z => h (wst_le.mp z).1
theorem Tr_find {n : Nat} {L S : List Int} {m : Int} : ∀ (k : Nat) (o : List Int), (wst L S o).2 ≤ m → (Tr n k o).find? (fun o => decide ((wst L S o).2 ≤ m)) = fst n L S m k o
  | 0, o, h => by
    rw [Tr, fst, if_pos (wst_last o h), List.find?_cons, decide_eq_true h]
  | k + 1, o, h => by
    rw [Tr, fst, if_pos (wst_last o h), List.find?_flatMap]
    congr 1
    funext i
    by_cases c : (wst L S (o ++ [i])).2 ≤ m
    · exact Tr_find k _ c
    · rw [Tr_none k _ c]
      have : ¬ absI (tlt L S (o ++ [i])) ≤ m := fun z => c (wst_le.mpr ⟨h, z⟩)
      cases k with
      | zero => rw [fst, if_neg this]
      | succ k => rw [fst, if_neg this]
theorem boarding_find {L S : List Int} {n : Nat} (hy : Hy L S n) {most : Int} (h0 : 0 ≤ most) : tf__boarding L S most = .ok ((Tr n n []).find? fun o => decide ((wst L S o).2 ≤ most)) := by
  rw [boarding_fst hy most, Tr_find n [] h0]
/-! the orders: their items, their order -/
theorem Tr_mem {n : Nat} : ∀ (k : Nat) (o r : List Int), o.Nodup → (∀ x ∈ o, 0 ≤ x ∧ x < (n : Int)) → o.length + k = n → r ∈ Tr n k o → r.Nodup ∧ (∀ x ∈ r, 0 ≤ x ∧ x < (n : Int)) ∧ r.length = n
  | 0, o, r, h1, h2, h3, h => by
    rw [Tr, List.mem_singleton] at h
    subst h
    exact ⟨h1, h2, h3⟩
  | k + 1, o, r, h1, h2, h3, h => by
    rw [Tr, List.mem_flatMap] at h
    obtain ⟨i, hi, h⟩ := h
    exact Tr_mem k _ r (snoc_nodup h1 hi) (snoc_sub h2 hi) (by rw [List.length_append]; simp; omega) h
theorem Tr_all {n : Nat} {r : List Int} (h : r ∈ Tr n n []) : r.Nodup ∧ (∀ x ∈ r, 0 ≤ x ∧ x < (n : Int)) ∧ r.length = n := Tr_mem n [] r (by simp) (fun x hx => by cases hx) (by simp) h
theorem Tr_perm {n : Nat} {r : List Int} (h : r ∈ Tr n n []) : r.Perm (irng 0 n) := by
  obtain ⟨h1, h2, h3⟩ := Tr_all h
  refine (List.perm_ext_iff_of_nodup h1 (irng_nodup 0 n)).mpr fun a => ⟨fun ha => mem_irng.mpr (h2 a ha), fun ha => ?_⟩
  have := rest_len h1 h2
  have e : rest n r = [] := List.eq_nil_of_length_eq_zero (by omega)
  exact Classical.byContradiction fun z => by
    have : a ∈ rest n r := mem_rest.mpr ⟨mem_irng.mp ha, z⟩
    rw [e] at this
    cases this
theorem lex_app (a b c : List Int) : lexL ltInt (a ++ b) (a ++ c) = lexL ltInt b c := by
  induction a with
  | nil => rfl
  | cons x a ih => rw [List.cons_append, List.cons_append, lexL, if_pos rfl, ih]
theorem Tr_pre {n : Nat} : ∀ (k : Nat) (o r : List Int), r ∈ Tr n k o → ∃ q, r = o ++ q
  | 0, o, r, h => by
    rw [Tr, List.mem_singleton] at h
    exact ⟨[], by rw [h, List.append_nil]⟩
  | k + 1, o, r, h => by
    rw [Tr, List.mem_flatMap] at h
    obtain ⟨i, _, h⟩ := h
    obtain ⟨q, rfl⟩ := Tr_pre k _ r h
    exact ⟨i :: q, by simp⟩
theorem Tr_asc {n : Nat} : ∀ (k : Nat) (o : List Int), (Tr n k o).Pairwise fun a b => lexL ltInt a b = true
  | 0, o => List.pairwise_singleton ..
  | k + 1, o => by
    rw [Tr, List.pairwise_flatMap]
    refine ⟨fun i _ => Tr_asc k _, ?_⟩
    have := (irng_asc 0 (n : Int)).filter fun i => !decide (i ∈ o)
    refine (show (rest n o).Pairwise (· < ·) from this).imp fun {i j} hij a ha b hb => ?_
    obtain ⟨q, rfl⟩ := Tr_pre k _ a ha
    obtain ⟨p, rfl⟩ := Tr_pre k _ b hb
    rw [List.append_assoc, List.append_assoc, lex_app]
    show lexL ltInt (i :: q) (j :: p) = true
    rw [lexL, if_neg (by omega)]
    exact decide_eq_true hij
end Nk53

set_option Elab.async false
set_option linter.all false
set_option maxRecDepth 100000
namespace Nk53
open PySem PySem.Spec PyProof.Rows L2 Den Ty
/-! ### what is asked stands -/
structure Ok (L P S : List Int) (n : Nat) : Prop where
  asc : P.Pairwise (· < ·)
  p1 : 1 ≤ P.length
  p8 : P.length ≤ 8
  pb : ∀ x ∈ P, -20 ≤ x ∧ x ≤ 20
  ll : L.length = n
  n1 : 1 ≤ n
  n6 : n ≤ 6
  np : n ≤ P.length
  lb : ∀ x ∈ L, 1 ≤ x ∧ x ≤ 100
  ls : S.length = n
  sp : ∀ x ∈ S, x ∈ P
  sn : S.Nodup
theorem Ok.hy {L P S : List Int} {n : Nat} (h : Ok L P S n) : Hy L S n := ⟨h.ll, h.ls, h.n6, fun x hx => by have := h.lb x hx; omega, fun x hx => by have := h.pb x (h.sp x hx); omega⟩
theorem whole_all {xs : List Int} {lo hi : Int} (hl : xs.length ≤ 1000000) : compM (xs.map eInt) (fun z => wholeG z lo hi >>= fun y => .ok (some y)) = .ok ((xs.map eInt).map fun d => isWhole d lo hi) := by
  refine compM_map (fun z hz => ?_) (by rw [List.length_map]; exact hl)
  obtain ⟨i, _, rfl⟩ := List.mem_map.mp hz
  rfl
theorem all_true {α : Type} {xs : List α} {f : α → Bool} (h : ∀ x ∈ xs, f x = true) : (xs.map f).all id = true := by
  rw [List.all_map, List.all_eq_true]
  exact fun x hx => h x hx
theorem whole_in {i lo hi : Int} (h : lo ≤ i) (h' : i ≤ hi) : isWhole (eInt i) lo hi = true := by
  show (decide _ && decide _) = true
  rw [decide_eq_true h, decide_eq_true h']; rfl
theorem zip_asc : ∀ {xs : List Int}, xs.Pairwise (· < ·) → ((xs.zip (xs.drop 1)).map fun z : Int × Int => decide (z.1 < z.2)).all id = true
  | [], _ => rfl
  | [x], _ => rfl
  | x :: y :: r, h => by
    rw [List.pairwise_cons] at h
    have := zip_asc h.2
    simp only [List.drop_one, List.tail_cons, List.zip_cons_cons, List.map_cons, List.all_cons] at this ⊢
    rw [this, Bool.and_true]
    exact decide_eq_true (h.1 y (List.mem_cons_self ..))
theorem ascends_ok {xs : List Int} (h : xs.Pairwise (· < ·)) (hl : xs.length ≤ 1000) : tf_ascends xs = .ok true := by
  unfold tf_ascends
  rw [cut_from _ (by decide), lenG_ok (by rw [List.length_map, List.length_zip]; omega), ok_b]
  exact congrArg Except.ok (zip_asc h)
theorem keys_fold {xs : List Int} {f : Int → Bool} : ∀ (acc : List (Int × Bool)), (acc.map (·.1) ++ xs).Nodup → (xs.foldl (fun m x => putT m x (f x)) acc).map (·.1) = acc.map (·.1) ++ xs := by
  induction xs with
  | nil => intro acc _; rw [List.append_nil]; rfl
  | cons x xs ih =>
    intro acc h
    have hx : x ∉ acc.map (·.1) := fun z => by
      rw [List.nodup_append] at h
      exact h.2.2 x z x (List.mem_cons_self ..) rfl
    have hk : (putT acc x (f x)).map (·.1) = acc.map (·.1) ++ [x] := by rw [putT_keys, if_neg hx]
    rw [List.foldl_cons, ih]
    · rw [hk, List.append_assoc]; rfl
    · rw [hk, List.append_assoc]; exact h
theorem check_ok {L P S : List Int} {n : Nat} (h : Ok L P S n) : tf__check (eTup eInt L) (eTup eInt P) = .ok () := by
  obtain ⟨asc, p1, p8, pb, ll, n1, n6, np, lb, ls, sp, sn⟩ := h
  unfold tf__check
  show (if _ then _ else _) = _
  rw [if_neg (by rw [List.length_map, decide_eq_true (by omega), decide_eq_true (by omega)]; decide), whole_all (by omega), ok_b]
  have a1 : ((P.map eInt).map fun d => isWhole d ((0 : Int) - 20) 20).all id = true := all_true fun d hd => by
    obtain ⟨i, hi, rfl⟩ := List.mem_map.mp hd
    have := pb i hi
    exact whole_in (by omega) (by omega)
  rw [a1]
  refine (bind_eq (x := false) ?_).trans ?_
  · show (mapR2 cInt (P.map eInt) >>= fun x6 => tf_ascends x6) >>= (fun z => .ok !z) = _
    rw [mapR2_int, ok_b, ascends_ok asc (by omega)]; rfl
  rw [if_neg Bool.false_ne_true]
  show (if _ then _ else _) = _
  rw [if_neg (by rw [List.length_map, List.length_map, decide_eq_true (by omega), decide_eq_true (by omega)]; decide), whole_all (by omega), ok_b]
  have a2 : ((L.map eInt).map fun d => isWhole d 1 100).all id = true := all_true fun d hd => by
    obtain ⟨i, hi, rfl⟩ := List.mem_map.mp hd
    have := lb i hi
    exact whole_in (by omega) (by omega)
  rw [a2]; rfl
theorem check_stowing_ok {L P S : List Int} {n : Nat} (h : Ok L P S n) : tf__check_stowing (eTup eInt L) (eTup eInt P) (eTup eInt S) = .ok () := by
  have hc := check_ok h
  obtain ⟨asc, p1, p8, pb, ll, n1, n6, np, lb, ls, sp, sn⟩ := h
  unfold tf__check_stowing
  rw [hc, ok_b]
  show ((cTup cAny (eTup eInt L) >>= _) >>= _) >>= _ = _
  rw [cTup_any, ok_b, ok_b, ok_b, List.length_map, List.length_map, decide_eq_true (by omega)]
  show (compM (S.map eInt) _ >>= _) >>= _ >>= _ = _
  have e1 : compM (S.map eInt) (fun (z6 : PyData) => (((wholeG z6 ((0 : Int) - (20 : Int)) (20 : Int)) >>= fun (x8 : Bool) => (if x8 then (((cTup cAny) (eTup eInt P)) >>= fun (x7 : (List PyData)) => (inG z6 x7)) else .ok false)) >>= fun y => .ok (some y))) = .ok ((S.map eInt).map fun _ => true) := by
    refine compM_map (g := fun _ => true) (fun z hz => ?_) (by rw [List.length_map]; omega)
    obtain ⟨i, hi, rfl⟩ := List.mem_map.mp hz
    have b := pb i (sp i hi)
    have w : wholeG (eInt i) ((0 : Int) - 20) 20 = .ok true := by
      show (.ok (isWhole (eInt i) _ _) : Rs Bool) = _
      rw [whole_in (by omega) (by omega)]
    rw [w, ok_b, if_pos rfl, cTup_any, ok_b, inG_of eqInt (by decide), decide_eq_true (sp i hi)]; rfl
  rw [e1, ok_b, all_true (fun _ _ => rfl)]
  show (dcG (S.map eInt) _ >>= _) >>= _ >>= _ = _
  have e2 : dcG (S.map eInt) (fun (z10 : PyData) => ((cInt z10) >>= fun k => (.ok true : Rs Bool) >>= fun v => .ok (some (k, v)))) = .ok (S.foldl (fun m x => putT m x true) []) := by
    have : ∀ z ∈ S.map eInt, ((cInt z) >>= fun k => (.ok true : Rs Bool) >>= fun v => (.ok (some (k, v)) : Rs (Option (Int × Bool)))) = .ok (some ((match z with | .int i => i | _ => 0), true)) := fun z hz => by
      obtain ⟨i, hi, rfl⟩ := List.mem_map.mp hz
      rfl
    rw [dcG_ok this (by rw [List.length_map]; omega), List.foldl_map]
  rw [e2, ok_b, ok_b]
  have k := keys_fold (xs := S) (f := fun _ => true) [] (by simpa using sn)
  have kl : (S.foldl (fun m x => putT m x true) ([] : List (Int × Bool))).length = S.length := by
    have := congrArg List.length k
    simpa using this
  rw [kl, decide_eq_false (by omega)]; rfl
end Nk53

set_option Elab.async false
set_option linter.all false
set_option maxRecDepth 100000
namespace Nk53
open PySem PySem.Spec PyProof.Rows L2 Den Ty
theorem ixG_mapI {L : List Int} {i : Int} (h0 : 0 ≤ i) (h : i < L.length) : ixG (L.map eInt) i = .ok (eInt (L.getD i.toNat default)) := by
  have e : ((i.toNat : Nat) : Int) = i := Int.toNat_of_nonneg h0
  have hl : i.toNat < L.length := by omega
  rw [← e, ixG_nat (by rw [List.length_map]; exact hl), Int.toNat_natCast, List.getElem_map, List.getD_eq_getElem?_getD, List.getElem?_eq_getElem hl]; rfl
theorem keys_mem {α : Type} {f : α → Int} {k : Int} : ∀ (xs : List α) (acc : List (Int × Bool)), k ∈ (xs.foldl (fun m x => putT m (f x) true) acc).map (·.1) ↔ k ∈ acc.map (·.1) ∨ ∃ x ∈ xs, f x = k
  | [], acc => by simp
  | x :: xs, acc => by
    rw [List.foldl_cons, keys_mem xs, putT_keys]
    have : (k ∈ if f x ∈ acc.map (·.1) then acc.map (·.1) else acc.map (·.1) ++ [f x]) ↔ k ∈ acc.map (·.1) ∨ f x = k := by
      split
      · rename_i h
        exact ⟨.inl, fun z => z.elim id fun z => z ▸ h⟩
      · rw [List.mem_append, List.mem_singleton]
        exact ⟨fun z => z.imp_right Eq.symm, fun z => z.imp_right Eq.symm⟩
    rw [this]
    constructor
    · rintro ((h | h) | ⟨y, hy, h⟩)
      · exact .inl h
      · exact .inr ⟨x, List.mem_cons_self .., h⟩
      · exact .inr ⟨y, List.mem_cons_of_mem _ hy, h⟩
    · rintro (h | ⟨y, hy, h⟩)
      · exact .inl (.inl h)
      · rcases List.mem_cons.mp hy with rfl | hy
        · exact .inl (.inr h)
        · exact .inr ⟨y, hy, h⟩
theorem find_first {β : Type} {g : Int → Option β} {b : Int} {y : β} (hb : g b = some y) : ∀ {ts : List Int}, ts.Pairwise (fun a b => ltInt b a = false) → b ∈ ts → (∀ t ∈ ts, t < b → g t = none) → ts.findSome? g = some y
  | t :: ts, hp, hm, hn => by
    rw [List.findSome?_cons]
    rw [List.pairwise_cons] at hp
    rcases List.mem_cons.mp hm with rfl | hm'
    · rw [hb]
    · have : ¬ b < t := fun z => by
        have := hp.1 b hm'
        unfold ltInt at this
        exact of_decide_eq_false this z
      by_cases e : t = b
      · subst e
        rw [hb]
      · rw [hn t (List.mem_cons_self ..) (by omega)]
        exact find_first hb hp.2 hm' fun t ht => hn t (List.mem_cons_of_mem _ ht)
theorem Tr_ne {n : Nat} : ∀ (k : Nat) (o : List Int), o.Nodup → (∀ x ∈ o, 0 ≤ x ∧ x < (n : Int)) → o.length + k = n → ∃ r, r ∈ Tr n k o
  | 0, o, _, _, _ => ⟨o, by rw [Tr]; exact List.mem_singleton_self o⟩
  | k + 1, o, h1, h2, h3 => by
    have := rest_len h1 h2
    cases e : rest n o with
    | nil => rw [e] at this; simp at this; omega
    | cons i r =>
      have hi : i ∈ rest n o := by rw [e]; exact List.mem_cons_self ..
      obtain ⟨q, hq⟩ := Tr_ne k (o ++ [i]) (snoc_nodup h1 hi) (snoc_sub h2 hi) (by rw [List.length_append]; simp; omega)
      exact ⟨q, by rw [Tr, List.mem_flatMap]; exact ⟨i, hi, hq⟩⟩
theorem wst_key {L S : List Int} {n : Nat} (o : List Int) : o.Nodup → (∀ x ∈ o, 0 ≤ x ∧ x < (n : Int)) → ∃ g, Asc n g ∧ absI (tlt L S g) = (wst L S o).2 := by
  refine snoc_ind (P := fun o => o.Nodup → (∀ x ∈ o, 0 ≤ x ∧ x < (n : Int)) → ∃ g, Asc n g ∧ absI (tlt L S g) = (wst L S o).2) (fun _ _ => ⟨[], ⟨List.Pairwise.nil, fun x hx => by cases hx⟩, rfl⟩) (fun o i ih h1 h2 => ?_) o
  have n1 : o.Nodup := h1.sublist (List.sublist_append_left ..)
  obtain ⟨g, hg, e⟩ := ih n1 fun x hx => h2 x (List.mem_append_left _ hx)
  by_cases c : absI (tlt L S (o ++ [i])) ≤ (wst L S o).2
  · refine ⟨g, hg, ?_⟩
    rw [e, wst_snoc, wst_fst]
    rw [tlt_snoc, absI_le] at c
    show _ = max (max _ _) _
    omega
  · refine ⟨K (o ++ [i]), K_asc h1 h2, ?_⟩
    rw [tlt_perm K_perm, wst_snoc, wst_fst]
    rw [tlt_snoc] at c ⊢
    show _ = max (max _ _) _
    unfold absI at c ⊢
    split at c <;> omega
def rowsW (L S : List Int) (n : Nat) : List (Int × List Int) := (Tr n n []).map fun o => ((wst L S o).2, o)
theorem soW : StO (ltP2 ltInt (lexL ltInt)) := stP2 stInt (stLex stInt)
theorem absI_nn (x : Int) : 0 ≤ absI x := by unfold absI; split <;> omega
/-- the least of the rows, and what is found at its tilt -/
theorem best_ok {L S : List Int} {n : Nat} : ∃ b o, minG (ltP2 ltInt (lexL ltInt)) (rowsW L S n) = .ok (b, o) ∧ o ∈ Tr n n [] ∧ (wst L S o).2 = b ∧ (∀ t, t < b → (Tr n n []).find? (fun o => decide ((wst L S o).2 ≤ t)) = none) ∧ (Tr n n []).find? (fun o => decide ((wst L S o).2 ≤ b)) = some o := by
  obtain ⟨q, hq⟩ := Tr_ne (n := n) n [] (by simp) (fun x hx => by cases hx) (by simp)
  have hne : rowsW L S n ≠ [] := List.ne_nil_of_mem (List.mem_map.mpr ⟨q, hq, rfl⟩)
  obtain ⟨⟨b, o⟩, e, hm, hl⟩ := minG_spec soW hne
  obtain ⟨o2, ho, eo⟩ := List.mem_map.mp hm
  cases eo
  have least : ∀ r ∈ Tr n n [], ¬ (wst L S r).2 < (wst L S o).2 := fun r hr z => by
    have := hl ((wst L S r).2, r) (List.mem_map.mpr ⟨r, hr, rfl⟩)
    unfold ltP2 at this
    rw [if_neg (show ¬ (wst L S r).2 = (wst L S o).2 by omega)] at this
    exact of_decide_eq_false this z
  refine ⟨_, _, e, ho, rfl, fun t ht => ?_, ?_⟩
  · rw [List.find?_eq_none]
    intro r hr z
    have := of_decide_eq_true z
    have := least r hr
    omega
  · cases f : (Tr n n []).find? (fun w => decide ((wst L S w).2 ≤ (wst L S o).2)) with
    | none =>
      rw [List.find?_eq_none] at f
      exact absurd (decide_eq_true (Int.le_refl _)) (f o ho)
    | some r =>
      obtain ⟨h1, as, bs, h2, h3⟩ := List.find?_eq_some_iff_append.mp f
      have h1 := of_decide_eq_true h1
      have hr : r ∈ Tr n n [] := by rw [h2]; simp
      have hw : (wst L S r).2 = (wst L S o).2 := by have := least r hr; omega
      rw [h2, List.mem_append, List.mem_cons] at ho
      rcases ho with h | h | h
      · have := h3 o h
        rw [decide_eq_true (Int.le_refl _)] at this
        cases this
      · rw [h]
      · have ha := Tr_asc (n := n) n []
        rw [h2, List.pairwise_append, List.pairwise_cons] at ha
        have := ha.2.1.1 o h
        have l2 := hl ((wst L S r).2, r) (List.mem_map.mpr ⟨r, hr, rfl⟩)
        unfold ltP2 at l2
        rw [if_pos hw, this] at l2
        cases l2
theorem steadiest_ok {L P S : List Int} {n : Nat} (h : Ok L P S n) : tf_steadiest (eTup eInt L) (eTup eInt P) (eTup eInt S) = minG (ltP2 ltInt (lexL ltInt)) (rowsW L S n) := by
  have hy := h.hy
  obtain ⟨subs, es, hs⟩ := subsets_ok hy.n6
  obtain ⟨b, o, eb, ho, hb, hno, hfd⟩ := best_ok (L := L) (S := S) (n := n)
  rw [eb]
  unfold tf_steadiest
  rw [check_stowing_ok h, ok_b]
  refine (bind_eq (x := subs.foldl (fun m x => putT m (absI (tlt L S x)) true) []) ?_).trans ?_
  · refine (bind_eq (x := subs) ?_).trans ?_
    · rw [cTup_any, ok_b, ok_b, List.length_map, hy.ll, es, ok_b]
    refine dcG_ok (g := fun g => (absI (tlt L S g), true)) (fun g hg => ?_) (by have := hs.2.2.1; omega)
    have ha := (hs.1 g).mp hg
    have e1 : compM g (fun (z6 : Int) => ((((((cTup cAny) (eTup eInt L)) >>= fun (x7 : (List PyData)) => (ixG x7 z6)) >>= cInt) >>= fun (x9 : Int) => (((((cTup cAny) (eTup eInt S)) >>= fun (x8 : (List PyData)) => (ixG x8 z6)) >>= cInt) >>= fun (x10 : Int) => (mulG x9 x10))) >>= fun y => .ok (some y))) = .ok (g.map (wt L S)) := by
      refine compM_map (g := wt L S) (fun z hz => ?_) (by have := rest_len ha.nodup ha.2; have := hy.n6; omega)
      obtain ⟨z0, z1⟩ := ha.2 z hz
      have w := wt_ok hy z0 z1
      rw [ixG_ok z0 (by rw [hy.ll]; exact z1), ok_b, ixG_ok z0 (by rw [hy.ls]; exact z1), ok_b] at w
      rw [cTup_any, cTup_any, ok_b, ok_b, ixG_mapI z0 (by rw [hy.ll]; exact z1), ixG_mapI z0 (by rw [hy.ls]; exact z1)]
      show (mulG _ _ >>= _) = _
      rw [w]; rfl
    rw [e1]; rfl
  · have hk : ∀ t, t ∈ sortT ltInt ((subs.foldl (fun m x => putT m (absI (tlt L S x)) true) []).map (·.1)) ↔ ∃ g ∈ subs, absI (tlt L S g) = t := fun t => by
      rw [mem_sortT, keys_mem]; simp
    have hf : ∀ t ∈ sortT ltInt ((subs.foldl (fun m x => putT m (absI (tlt L S x)) true) []).map (·.1)), ((((cTup cInt) (eTup eInt L)) >>= fun (x19 : (List Int)) => (((cTup cInt) (eTup eInt S)) >>= fun (x20 : (List Int)) => (tf__boarding x19 x20 t))) >>= fun (order21 : (Option (List Int))) =>
  (if order21.isSome then (((gO order21) >>= fun (x22 : (List Int)) => (.ok (t, x22) : Rs (Int × (List Int)))) >>= fun z => (.ok (Sg.ret z) : Rs (Sg Unit (Int × List Int))))
  else (.ok (.go ())))) = .ok (sgO (((Tr n n []).find? (fun o => decide ((wst L S o).2 ≤ t))).map (fun o => (t, o)))) := fun t ht => by
      obtain ⟨g, _, rfl⟩ := (hk t).mp ht
      rw [cTup_int, ok_b, cTup_int, ok_b, boarding_find hy (absI_nn _), ok_b]
      cases (Tr n n []).find? (fun o => decide ((wst L S o).2 ≤ absI (tlt L S g))) <;> rfl
    refine (bind_eq (forX_find hf)).trans ?_
    have hb2 : b ∈ sortT ltInt ((subs.foldl (fun m x => putT m (absI (tlt L S x)) true) []).map (·.1)) := by
      obtain ⟨h1, h2, _⟩ := Tr_all ho
      obtain ⟨g, hg, e⟩ := wst_key (L := L) (S := S) o h1 h2
      exact (hk b).mpr ⟨g, (hs.1 g).mpr hg, by rw [e, hb]⟩
    rw [find_first (b := b) (y := (b, o)) (by rw [hfd]; rfl) (sortT_pw stInt) hb2 (fun t _ ht => by rw [hno t ht]; rfl)]
    rfl
theorem zip_wt {L S : List Int} {n : Nat} (hy : Hy L S n) : (L.zip S).map (fun z : Int × Int => z.1 * z.2) = (irng 0 n).map (wt L S) := by
  refine List.ext_getElem (by rw [List.length_map, List.length_map, List.length_zip, irng_len, hy.ll, hy.ls]; omega) fun i h1 h2 => ?_
  rw [List.length_map, List.length_zip] at h1
  have l1 : i < L.length := by omega
  have l2 : i < S.length := by omega
  have e : (irng 0 (n : Int))[i]'(by rw [List.length_map] at h2; exact h2) = (i : Int) := by
    unfold irng
    rw [List.getElem_map, List.getElem_range]; omega
  rw [List.getElem_map, List.getElem_map, List.getElem_zip, e]
  unfold wt
  rw [Int.toNat_natCast, List.getD_eq_getElem?_getD, List.getD_eq_getElem?_getD, List.getElem?_eq_getElem l1, List.getElem?_eq_getElem l2]; rfl
theorem tilt_ok {L P S : List Int} {n : Nat} (h : Ok L P S n) : tf_tilt_of (eTup eInt L) (eTup eInt P) (eTup eInt S) = .ok (tlt L S (irng 0 n)) := by
  have hy := h.hy
  unfold tf_tilt_of
  rw [check_stowing_ok h, ok_b, cTup_int, ok_b, cTup_int, ok_b]
  unfold tf__tilt
  rw [compM_map (g := fun z : Int × Int => z.1 * z.2) (fun z hz => ?_) (by rw [List.length_zip, hy.ll]; have := hy.n6; omega), ok_b, zip_wt hy]; rfl
  have b1 := hy.bl _ (List.of_mem_zip hz).1
  have b2 := hy.bs _ (List.of_mem_zip hz).2
  rw [mulG_ok (by omega) (by omega)]; rfl
theorem board_ok {L P S : List Int} {n : Nat} (h : Ok L P S n) {t : Int} (t0 : 0 ≤ t) (t1 : t ≤ 100000) : tf_boarding (eTup eInt L) (eTup eInt P) (eTup eInt S) (eInt t) = .ok ((Tr n n []).find? fun o => decide ((wst L S o).2 ≤ t)) := by
  unfold tf_boarding
  have w : wholeG (eInt t) 0 100000 = .ok true := by
    show (.ok (isWhole (eInt t) _ _) : Rs Bool) = _
    rw [whole_in t0 t1]
  rw [check_stowing_ok h, ok_b, w, ok_b, ok_b, if_neg (by decide), cTup_int, ok_b, cTup_int, ok_b, (show cInt (eInt t) = .ok t from rfl), ok_b]
  exact boarding_find h.hy t0
theorem refused_ok {L P S : List Int} {n : Nat} (h : Ok L P S n) {d : PyData} (w : wholeG d 0 100000 = .ok false) : tf__law_refused L P S d = .ok true := by
  unfold tf__law_refused tf_boarding
  rw [check_stowing_ok h, ok_b, w]
  rfl
end Nk53

set_option Elab.async false
set_option linter.all false
set_option maxRecDepth 100000
namespace Nk53
open PySem PySem.Spec PyProof.Rows L2 Den Ty
theorem ins_len (i : Int) : ∀ js : List Int, (insU i js).length ≤ js.length + 1
  | [] => Nat.le_refl _
  | j :: js => by
    unfold insU
    split
    · simp
    · split
      · simp
      · rw [List.length_cons, List.length_cons]
        have := ins_len i js
        omega
theorem sortU_len : ∀ xs : List Int, (sortU xs).length ≤ xs.length
  | [] => Nat.le_refl _
  | x :: xs => by
    show (insU x (sortU xs)).length ≤ _
    have := ins_len x (sortU xs)
    have := sortU_len xs
    rw [List.length_cons]; omega
theorem irng_getD {α : Type} [Inhabited α] (xs : List α) : (irng 0 (xs.length : Int)).map (fun z => xs.getD z.toNat default) = xs := by
  refine List.ext_getElem (by rw [List.length_map, irng_len]; omega) fun i h1 h2 => ?_
  have e : (irng 0 (xs.length : Int))[i]'(by rw [irng_len]; omega) = (i : Int) := by
    unfold irng
    rw [List.getElem_map, List.getElem_range]; omega
  rw [List.getElem_map, e, Int.toNat_natCast, List.getD_eq_getElem?_getD, List.getElem?_eq_getElem h2]; rfl
theorem walk_back {L S : List Int} {n : Nat} (hy : Hy L S n) {t : Int} (o : List Int) : (∀ x ∈ o, 0 ≤ x ∧ x < (n : Int)) → (wst L S o).2 ≤ t → forX (fun (x71 : Int) (s72 : Int) =>
    (if (decide (t < (max s72 ((0 : Int) - s72)))) then (.ok (Sg.ret false))
  else ((((ixG L x71) >>= fun (x74 : Int) => ((ixG S x71) >>= fun (x75 : Int) => (mulG x74 x75))) >>= fun (x76 : Int) => (.ok (s72 - x76) : Rs Int)) >>= fun (now77 : Int) =>
  (.ok (.go now77) : Rs (Sg Int Bool))))) o.reverse (tlt L S o) = .ok (.inl 0) := by
  refine snoc_ind (P := fun o => (∀ x ∈ o, 0 ≤ x ∧ x < (n : Int)) → (wst L S o).2 ≤ t → forX _ o.reverse (tlt L S o) = .ok (.inl 0)) (fun _ _ => rfl) (fun o i ih h1 h2 => ?_) o
  obtain ⟨z0, z1⟩ := h1 i (by simp)
  have h3 := wst_le.mp h2
  have h4 := absI_le.mp h3.2
  have hr : (o ++ [i]).reverse = i :: o.reverse := by simp
  rw [hr, forX, if_neg (by rw [decide_eq_false (by omega)]; decide), wt_ok hy z0 z1, ok_b, ok_b, ok_b]
  have e : tlt L S (o ++ [i]) - wt L S i = tlt L S o := by rw [tlt_snoc]; omega
  rw [e]
  exact ih (fun x hx => h1 x (List.mem_append_left _ hx)) h3.1
theorem good_head {α : Type} (g : List α) : (if (decide ((0 : Int) < (g.length : Int))) then ((ixG g (0 : Int)) >>= fun z => .ok (some z : (Option α))) else (.ok (none : (Option α)) : Rs (Option α))) = .ok g.head? := by
  cases g with
  | nil => rfl
  | cons x g =>
    rw [if_pos (decide_eq_true (by rw [List.length_cons]; omega)), ixG_zero]; rfl
theorem good_rows (L S : List Int) (n : Nat) (t : Int) : (((rowsW L S n).filter (fun (z62 : (Int × (List Int))) => (decide (z62.1 ≤ t)))).map (fun (z62 : (Int × (List Int))) => z62.2)) = (Tr n n []).filter fun o => decide ((wst L S o).2 ≤ t) := by
  unfold rowsW
  rw [List.filter_map, List.map_map]
  exact List.map_id' _
theorem natAbs_mul_le {a b : Int} {x y : Nat} (ha : a.natAbs ≤ x) (hb : b.natAbs ≤ y) : (a * b).natAbs ≤ x * y := by
  rw [Int.natAbs_mul]
  exact Nat.mul_le_mul ha hb
theorem tlt_bd {L P S : List Int} {n : Nat} (h : Ok L P S n) : ∀ g : List Int, (∀ x ∈ g, 0 ≤ x ∧ x < (n : Int)) → (tlt L S g).natAbs ≤ 2000 * g.length
  | [], _ => Nat.le_refl _
  | i :: g, hg => by
    have ih := tlt_bd h g fun x hx => hg x (List.mem_cons_of_mem _ hx)
    obtain ⟨z0, z1⟩ := hg i (List.mem_cons_self ..)
    have b1 := h.lb _ (getD_mem (xs := L) (i := i.toNat) (by rw [h.ll]; omega))
    have b2 := h.pb _ (h.sp _ (getD_mem (xs := S) (i := i.toNat) (by rw [h.ls]; omega)))
    have b3 : (wt L S i).natAbs ≤ 100 * 20 := natAbs_mul_le (by omega) (by omega)
    have e : tlt L S (i :: g) = wt L S i + tlt L S g := rfl
    rw [e, List.length_cons]
    omega
theorem Tr_len {n : Nat} (hn : n ≤ 6) : (Tr n n []).length ≤ 46656 := by
  rw [← Bq_all]
  refine Nat.le_trans (Bq_len n n) ?_
  exact Nat.le_trans (Nat.pow_le_pow_left hn n) (Nat.pow_le_pow_right (by decide) hn)
/-- what is asked of one limit -/
theorem limit_ok {L P S : List Int} {n : Nat} (h : Ok L P S n) {t : Int} (t0 : 0 ≤ t) (t1 : t ≤ 100000) :
    ((lenG (((rowsW L S n).filter (fun (z62 : (Int × (List Int))) => (decide (z62.1 ≤ t)))).map (fun (z62 : (Int × (List Int))) => z62.2))) >>= fun (good63 : (List (List Int))) =>
  ((tf_boarding ((eTup eInt) L) ((eTup eInt) P) ((eTup eInt) S) (eInt t)) >>= fun (told64 : (Option (List Int))) =>
  (((if (decide ((0 : Int) < (good63.length : Int))) then ((ixG good63 (0 : Int)) >>= fun z => .ok (some z : (Option (List Int)))) else (.ok (none : (Option (List Int))) : Rs (Option (List Int)))) >>= fun (x65 : (Option (List Int))) => (.ok (!(decide (told64 = x65))) : Rs Bool)) >>= fun (c81 : Bool) => if c81 then (.ok (Sg.ret false))
  else (if told64.isSome then ((.ok (tlt L S (irng 0 n)) : Rs Int) >>= fun (now66 : Int) =>
  ((((gO told64) >>= fun (x67 : (List Int)) => (.ok x67.reverse : Rs (List Int))) >>= fun (x68 : (List Int)) => (.ok x68 : Rs (List Int))) >>= fun (xs80 : (List Int)) => (forX (fun (x71 : Int) (s72 : Int) =>
    (if (decide (t < (max s72 ((0 : Int) - s72)))) then (.ok (Sg.ret false))
  else ((((ixG L x71) >>= fun (x74 : Int) => ((ixG S x71) >>= fun (x75 : Int) => (mulG x74 x75))) >>= fun (x76 : Int) => (.ok (s72 - x76) : Rs Int)) >>= fun (now77 : Int) =>
  (.ok (.go now77))))) xs80 now66 >>= afterX (fun (s78 : Int) =>
  (if (!(decide (s78 = (0 : Int)))) then (.ok (Sg.ret false))
  else (.ok (.go ())))) (fun z => (Sg.ret z)))))
  else (.ok (.go ()) : Rs (Sg Unit Bool)))))) = .ok (.go ()) := by
  have hy := h.hy
  rw [good_rows, lenG_ok (Nat.le_trans (List.length_filter_le _ _) (Nat.le_trans (Tr_len h.n6) (by decide))), ok_b, board_ok h t0 t1, ok_b, good_head, ok_b, List.head?_filter, decide_eq_true rfl, ok_b, if_neg (by decide)]
  cases f : (Tr n n []).find? (fun o => decide ((wst L S o).2 ≤ t)) with
  | none => rfl
  | some r =>
    have hw : (wst L S r).2 ≤ t := by
      have z := List.find?_some f
      exact of_decide_eq_true z
    have hr := List.mem_of_find?_eq_some f
    have hp : tlt L S (irng 0 n) = tlt L S r := (tlt_perm (Tr_perm hr)).symm
    rw [if_pos (show (some r).isSome = true from rfl), ok_b, hp]
    show ((.ok r.reverse : Rs (List Int)) >>= fun x => .ok x) >>= _ = _
    rw [ok_b, ok_b, walk_back hy r (Tr_all hr).2.1 hw, ok_b]
    rfl
end Nk53

set_option Elab.async false
set_option linter.all false
set_option maxRecDepth 100000
namespace Nk53
open PySem PySem.Spec PyProof.Rows L2 Den Ty
def dr (ds : List Int) (i : Int) : Int := ds.getD i.toNat default
theorem dr_ok {ds : List Int} (hl : ds.length = 60) {i : Int} (h0 : 0 ≤ i) (h : i < 60) : ixG ds i = .ok (dr ds i) := ixG_ok h0 (by omega)
theorem dr_in {ds : List Int} (hl : ds.length = 60) (ok : DrawOk ds) {i : Int} (h0 : 0 ≤ i) (h : i < 60) : 0 ≤ dr ds i ∧ dr ds i < 65521 := ok _ (getD_mem (by omega))
def Pf (ds : List Int) (x4 : Int) : List Int := sortU ((irng 0 6).map fun z => dr ds ((7 * x4 + z) % 60) % 31 - 15)
def nf (ds : List Int) (x4 : Int) : Nat := (min ((Pf ds x4).length : Int) (1 + dr ds (50 + x4) % 5)).toNat
def Lf (ds : List Int) (x4 : Int) : List Int := (irng 0 (nf ds x4)).map fun z => 1 + dr ds (30 + z) % 40
def prs (ds : List Int) (x4 : Int) : List (Int × Int) := (irng 0 ((Pf ds x4).length : Int)).map fun z => (dr ds ((40 + 3 * z + x4) % 60), (Pf ds x4).getD z.toNat default)
def Sf (ds : List Int) (x4 : Int) : List Int := ((sortT (ltP2 ltInt ltInt) (prs ds x4)).map fun z => z.2).take (nf ds x4)
theorem i6 : (irng 0 (6 : Int)).length = 6 := irng_len 0 6
theorem Pf_len (ds : List Int) (x4 : Int) : (Pf ds x4).length ≤ 6 := by
  have := sortU_len ((irng 0 6).map fun z => dr ds ((7 * x4 + z) % 60) % 31 - 15)
  rw [List.length_map, i6] at this
  exact this
theorem Pf_ne (ds : List Int) (x4 : Int) : 1 ≤ (Pf ds x4).length := by
  have : (dr ds ((7 * x4 + 0) % 60) % 31 - 15) ∈ Pf ds x4 := (mem_sortU _ _).mpr (List.mem_map.mpr ⟨0, mem_irng.mpr (by decide), rfl⟩)
  exact List.length_pos_of_mem this
theorem nf_eq {ds : List Int} (hl : ds.length = 60) (ok : DrawOk ds) {x4 : Int} (h0 : 0 ≤ x4) (h6 : x4 < 6) : ((nf ds x4 : Nat) : Int) = min ((Pf ds x4).length : Int) (1 + dr ds (50 + x4) % 5) ∧ 1 ≤ nf ds x4 ∧ nf ds x4 ≤ 5 ∧ nf ds x4 ≤ (Pf ds x4).length := by
  have d := dr_in hl ok (i := 50 + x4) (by omega) (by omega)
  have p1 := Pf_ne ds x4
  unfold nf
  omega
theorem prs_snd (ds : List Int) (x4 : Int) : (prs ds x4).map (fun z => z.2) = Pf ds x4 := by
  unfold prs
  rw [List.map_map]
  exact irng_getD (Pf ds x4)
theorem Sf_perm (ds : List Int) (x4 : Int) : ((sortT (ltP2 ltInt ltInt) (prs ds x4)).map fun z => z.2).Perm (Pf ds x4) := by
  have := (sortT_perm (lt := ltP2 ltInt ltInt) (xs := prs ds x4)).map (fun z => z.2)
  rw [prs_snd] at this
  exact this
theorem all_ok {ds : List Int} (hl : ds.length = 60) (ok : DrawOk ds) {x4 : Int} (h0 : 0 ≤ x4) (h6 : x4 < 6) : Ok (Lf ds x4) (Pf ds x4) (Sf ds x4) (nf ds x4) := by
  obtain ⟨e, n1, n5, np⟩ := nf_eq hl ok h0 h6
  have pl := Pf_len ds x4
  have sl := (Sf_perm ds x4).length_eq
  refine ⟨sortU_asc _, Pf_ne ds x4, by omega, fun x hx => ?_, ?_, n1, by omega, np, fun x hx => ?_, ?_, fun x hx => ?_, ?_⟩
  · obtain ⟨z, hz, rfl⟩ := List.mem_map.mp ((mem_sortU _ _).mp hx)
    have := dr_in hl ok (i := (7 * x4 + z) % 60) (by omega) (by omega)
    omega
  · unfold Lf
    rw [List.length_map, irng_len]; omega
  · unfold Lf at hx
    obtain ⟨z, hz, rfl⟩ := List.mem_map.mp hx
    obtain ⟨z0, z1⟩ := mem_irng.mp hz
    have := dr_in hl ok (i := 30 + z) (by omega) (by omega)
    omega
  · unfold Sf
    rw [List.length_take, sl]; omega
  · unfold Sf at hx
    exact (Sf_perm ds x4).mem_iff.mp (List.mem_of_mem_take hx)
  · have pn : (Pf ds x4).Nodup := (sortU_asc _).imp fun h => Int.ne_of_lt h
    exact ((Sf_perm ds x4).nodup_iff.mpr pn).sublist (List.take_sublist ..)
theorem bad_ok {L P S : List Int} {n : Nat} (h : Ok L P S n) : compM ([(eInt (-(1 : Int))), (eInt (100001 : Int)), (eBool true), (eNon ()), (eStr (['3'] : List Char))] : List PyData) (fun (z84 : PyData) => ((tf__law_refused L P S z84) >>= fun y => .ok (some y))) = .ok [true, true, true, true, true] := by
  refine compM_map (g := fun _ => true) (fun z hz => ?_) (by decide)
  have hw : wholeG z 0 100000 = .ok false := by
    simp only [List.mem_cons, List.not_mem_nil, or_false] at hz
    rcases hz with rfl | rfl | rfl | rfl | rfl <;> rfl
  rw [refused_ok h hw]; rfl
set_option maxHeartbeats 1000000 in
theorem law_T (ns : List Int) (hn : ns.length ≤ 63) : tf_law ns = .ok true := by
  obtain ⟨ds, e, hl, ok⟩ := drawsG_ok ns 60 hn (by decide)
  unfold tf_law
  refine (bind_eq e).trans ?_
  refine (bind_eq (forX_go ?_)).trans ?_
  · intro x4 hx
    obtain ⟨h0, h6⟩ := mem_irng.mp hx
    have hk := all_ok hl ok h0 h6
    obtain ⟨en, n1, n5, np⟩ := nf_eq hl ok h0 h6
    have pl := Pf_len ds x4
    refine (bind_eq (x := Pf ds x4) ?_).trans ?_
    · refine (bind_eq (x := Pf ds x4) ?_).trans rfl
      refine (bind_eq (compM_map (g := fun z => dr ds ((7 * x4 + z) % 60) % 31 - 15) (fun z hz => ?_) (by rw [i6]; decide))).trans ?_
      · obtain ⟨z0, z1⟩ := mem_irng.mp hz
        rw [mulG_ok (by omega) (by omega), ok_b, ok_b, ok_b, dr_ok hl (by omega) (by omega)]; rfl
      · unfold sortSetG
        rw [if_pos (by rw [List.length_map, i6]; decide)]; rfl
    refine (bind_eq (x := ((nf ds x4 : Nat) : Int)) ?_).trans ?_
    · rw [dr_ok hl (by omega) (by omega), ok_b, ok_b, ok_b, ok_b, en]
    refine (bind_eq (x := Lf ds x4) ?_).trans ?_
    · refine (bind_eq (x := Lf ds x4) ?_).trans rfl
      refine (bind_eq (rangeG_ok (by decide) (by omega))).trans ?_
      refine compM_map (g := fun z => 1 + dr ds (30 + z) % 40) (fun z hz => ?_) (by rw [irng_len]; omega)
      obtain ⟨z0, z1⟩ := mem_irng.mp hz
      rw [dr_ok hl (by omega) (by omega)]; rfl
    refine (bind_eq (x := Sf ds x4) ?_).trans ?_
    · refine (bind_eq (x := Sf ds x4) ?_).trans rfl
      refine (bind_eq (x := (sortT (ltP2 ltInt ltInt) (prs ds x4)).map fun z => z.2) ?_).trans ?_
      · refine (bind_eq (x := sortT (ltP2 ltInt ltInt) (prs ds x4)) ?_).trans (lenG_ok (by rw [List.length_map, sortT_len]; unfold prs; rw [List.length_map, irng_len]; omega))
        refine (bind_eq (x := sortT (ltP2 ltInt ltInt) (prs ds x4)) ?_).trans rfl
        refine (bind_eq (x := prs ds x4) ?_).trans rfl
        refine (bind_eq (rangeG_ok (by decide) (by omega))).trans ?_
        refine compM_map (fun z hz => ?_) (by rw [irng_len]; omega)
        obtain ⟨z0, z1⟩ := mem_irng.mp hz
        rw [mulG_ok (by omega) (by omega), ok_b, ok_b, ok_b, ok_b, dr_ok hl (by omega) (by omega), ok_b, ok_b, ixG_ok z0 z1]; rfl
      · rw [cut_to _ (by omega), Int.toNat_natCast]; rfl
    generalize Lf ds x4 = L at hk ⊢
    generalize Pf ds x4 = P at hk np pl ⊢
    generalize Sf ds x4 = S at hk ⊢
    generalize nf ds x4 = n at hk n1 n5 np en ⊢
    have hy := hk.hy
    refine (bind_eq (orders_ok (by omega))).trans ?_
    refine (bind_eq (x := rowsW L S n) ?_).trans ?_
    · refine compM_map (g := fun o => ((wst L S o).2, o)) (fun o ho => ?_) (Nat.le_trans (Tr_len hk.n6) (by decide))
      rw [worst_ok hy (Tr_all ho).2.1]; rfl
    obtain ⟨b, o, eb, ho, hb, hno, hfd⟩ := best_ok (L := L) (S := S) (n := n)
    refine (bind_eq eb).trans ?_
    refine (bind_eq (x := false) ?_).trans ?_
    · rw [steadiest_ok hk, eb, ok_b, decide_eq_true rfl]; rfl
    rw [if_neg Bool.false_ne_true]
    refine (bind_eq (tilt_ok hk)).trans ?_
    have bb : 0 ≤ b ∧ b ≤ 12000 := by
      obtain ⟨h1, h2, h3⟩ := Tr_all ho
      obtain ⟨g, hg, eg⟩ := wst_key (L := L) (S := S) o h1 h2
      have q := tlt_bd hk g hg.2
      have q2 := rest_len hg.nodup hg.2
      rw [← hb, ← eg]
      unfold absI
      split <;> omega
    have wb : (tlt L S (irng 0 n)).natAbs ≤ 12000 := by
      have := tlt_bd hk (irng 0 n) fun x hx => mem_irng.mp hx
      rw [irng_len] at this
      omega
    have dd := dr_in hl ok (i := 20 + x4) (by omega) (by omega)
    refine (bind_eq (x := sortU [0, b, max 0 (b - 1), b + 5, max (tlt L S (irng 0 n)) (0 - tlt L S (irng 0 n)), 100000, dr ds (20 + x4) % 400]) ?_).trans ?_
    · rw [dr_ok hl (by omega) (by omega), ok_b, ok_b, ok_b, ok_b, sortSetG_ok (by simp)]; rfl
    refine (bind_eq (forX_go fun t ht => limit_ok hk ?_ ?_)).trans ?_
    · rw [mem_sortU] at ht
      simp only [List.mem_cons, List.not_mem_nil, or_false] at ht
      omega
    · rw [mem_sortU] at ht
      simp only [List.mem_cons, List.not_mem_nil, or_false] at ht
      omega
    show (((compM _ _ >>= _) >>= _) >>= _) = _
    rw [bad_ok hk]; rfl
  · have k1 : Ok [5, 5, 2] [-1, 0, 1] [-1, 1, 0] 3 := ⟨by decide, by decide, by decide, by decide, rfl, by decide, by decide, by decide, by decide, rfl, by decide, by decide⟩
    have k2 : Ok [5, 5] [-2, 2, 3] [2, 3] 2 := ⟨by decide, by decide, by decide, by decide, rfl, by decide, by decide, by decide, by decide, rfl, by decide, by decide⟩
    have k3 : Ok [7] [0] [0] 1 := ⟨by decide, by decide, by decide, by decide, rfl, by decide, by decide, by decide, by decide, rfl, by decide, by decide⟩
    have s1 := steadiest_ok k1
    have b1 := board_ok k1 (t := 4) (by decide) (by decide)
    have b2 := board_ok k2 (t := 30) (by decide) (by decide)
    have b3 := board_ok k2 (t := 24) (by decide) (by decide)
    have s3 := steadiest_ok k3
    have v1 : minG (ltP2 ltInt (lexL ltInt)) (rowsW [5, 5, 2] [-1, 1, 0] 3) = .ok (5, [0, 1, 2]) := by rfl
    have v2 : ((Tr 3 3 []).find? fun o => decide ((wst [5, 5, 2] [-1, 1, 0] o).2 ≤ 4)) = none := by rfl
    have v3 : ((Tr 2 2 []).find? fun o => decide ((wst [5, 5] [2, 3] o).2 ≤ 30)) = some [0, 1] := by rfl
    have v4 : ((Tr 2 2 []).find? fun o => decide ((wst [5, 5] [2, 3] o).2 ≤ 24)) = none := by rfl
    have v5 : minG (ltP2 ltInt (lexL ltInt)) (rowsW [7] [0] 1) = .ok (0, [0]) := by rfl
    rw [v1] at s1
    rw [v2] at b1
    rw [v3] at b2
    rw [v4] at b3
    rw [v5] at s3
    show ((_ >>= _) >>= _) = _
    refine (bind_eq (x := false) ?_).trans ?_
    · refine (bind_eq (x := false) ?_).trans ?_
      · refine (bind_eq s1).trans rfl
      · rw [if_neg Bool.false_ne_true]
        refine (bind_eq b1).trans rfl
    · rw [if_neg Bool.false_ne_true]
      refine (bind_eq (x := true) ?_).trans ?_
      · refine (bind_eq b2).trans rfl
      · rw [if_pos rfl]
        refine (bind_eq (x := true) ?_).trans ?_
        · refine (bind_eq b3).trans rfl
        · rw [if_pos rfl]
          exact (bind_eq s3).trans rfl
theorem law_true (ns : List Int) (hn : ns.length ≤ 63) : cf_law [.list (ns.map .int)] = .ok (.bool true) := by
  have := ev_law ns
  rw [law_T ns hn] at this
  exact this
end Nk53

set_option Elab.async false
set_option linter.all false
set_option maxRecDepth 100000
set_option maxHeartbeats 4000000
namespace Nk53
open PySem PySem.Spec PyProof.Rows L2 Den
/-- what the top has written -/
theorem all_mk {l : PySem.W.OpenLaw} {w : World} {K : PySem.W.Frag} {h : Heap} {mg : Str → Option Value} {fa : Addr} (X : K.In h) (G : h.Ns mainGlobals mg) (hfa : mg "law" = some (.ref fa))
    {f__law_draws : Addr} {od__law_draws an__law_draws : Option Addr} {sl__law_draws : Array (Option Value)} {oc__law_draws kV__law_draws dc__law_draws pm__law_draws cd__law_draws ct__law_draws : Value}
    {f__law_orders : Addr} {od__law_orders an__law_orders : Option Addr} {sl__law_orders : Array (Option Value)} {oc__law_orders kV__law_orders dc__law_orders pm__law_orders cd__law_orders ct__law_orders : Value}
    {f__subsets : Addr} {od__subsets an__subsets : Option Addr} {sl__subsets : Array (Option Value)} {oc__subsets kV__subsets dc__subsets pm__subsets cd__subsets ct__subsets : Value}
    {f__boarding : Addr} {od__boarding an__boarding : Option Addr} {sl__boarding : Array (Option Value)} {oc__boarding kV__boarding dc__boarding pm__boarding cd__boarding ct__boarding : Value}
    {f_ascends : Addr} {od_ascends an_ascends : Option Addr} {sl_ascends : Array (Option Value)} {oc_ascends kV_ascends dc_ascends pm_ascends cd_ascends ct_ascends : Value}
    {f_is_whole : Addr} {od_is_whole an_is_whole : Option Addr} {sl_is_whole : Array (Option Value)} {oc_is_whole kV_is_whole dc_is_whole pm_is_whole cd_is_whole ct_is_whole : Value}
    {f__check : Addr} {od__check an__check : Option Addr} {sl__check : Array (Option Value)} {oc__check kV__check dc__check pm__check cd__check ct__check : Value}
    {f__check_stowing : Addr} {od__check_stowing an__check_stowing : Option Addr} {sl__check_stowing : Array (Option Value)} {oc__check_stowing kV__check_stowing dc__check_stowing pm__check_stowing cd__check_stowing ct__check_stowing : Value}
    {f_boarding : Addr} {od_boarding an_boarding : Option Addr} {sl_boarding : Array (Option Value)} {oc_boarding kV_boarding dc_boarding pm_boarding cd_boarding ct_boarding : Value}
    {f__law_refused : Addr} {od__law_refused an__law_refused : Option Addr} {sl__law_refused : Array (Option Value)} {oc__law_refused kV__law_refused dc__law_refused pm__law_refused cd__law_refused ct__law_refused : Value}
    {f__law_worst : Addr} {od__law_worst an__law_worst : Option Addr} {sl__law_worst : Array (Option Value)} {oc__law_worst kV__law_worst dc__law_worst pm__law_worst cd__law_worst ct__law_worst : Value}
    {f_steadiest : Addr} {od_steadiest an_steadiest : Option Addr} {sl_steadiest : Array (Option Value)} {oc_steadiest kV_steadiest dc_steadiest pm_steadiest cd_steadiest ct_steadiest : Value}
    {f__tilt : Addr} {od__tilt an__tilt : Option Addr} {sl__tilt : Array (Option Value)} {oc__tilt kV__tilt dc__tilt pm__tilt cd__tilt ct__tilt : Value}
    {f_tilt_of : Addr} {od_tilt_of an_tilt_of : Option Addr} {sl_tilt_of : Array (Option Value)} {oc_tilt_of kV_tilt_of dc_tilt_of pm_tilt_of cd_tilt_of ct_tilt_of : Value}
    {f_law : Addr} {od_law an_law : Option Addr} {sl_law : Array (Option Value)} {oc_law kV_law dc_law pm_law cd_law ct_law : Value}
    {t_v_MOST_TILT : Tok}
    {t_v_MOST_FAR : Tok}
    {t_v_MOST_SEATS : Tok}
    {t_v_MOST_LOADS : Tok}
    {t_v_MOST_HEAVY : Tok}
    {C_BadLoads : Addr}
    {C_BadMost : Addr}
    {C_BadSeats : Addr}
    {C_BadStowing : Addr}
    {C_ChestError : Addr}
    (a__law_draws : PySem.W.nsIn K mainGlobals "_law_draws" = some (some (.ref f__law_draws))) (l__law_draws : K.lookup f__law_draws = some ⟨oc__law_draws, od__law_draws, .func (PySem.W.fnOf "_law_draws" "_law_draws" (defArgs (topS 24)) (defBody (topS 24)) (defScope (topS 24)) .none kV__law_draws dc__law_draws pm__law_draws an__law_draws cd__law_draws ct__law_draws), sl__law_draws⟩) (c__law_draws : PySem.W.codeIn K cd__law_draws "_law_draws" = true) (k__law_draws : PySem.W.keepIn K (.ref f__law_draws) = true)
    (a__law_orders : PySem.W.nsIn K mainGlobals "_law_orders" = some (some (.ref f__law_orders))) (l__law_orders : K.lookup f__law_orders = some ⟨oc__law_orders, od__law_orders, .func (PySem.W.fnOf "_law_orders" "_law_orders" (defArgs (topS 25)) (defBody (topS 25)) (defScope (topS 25)) .none kV__law_orders dc__law_orders pm__law_orders an__law_orders cd__law_orders ct__law_orders), sl__law_orders⟩) (c__law_orders : PySem.W.codeIn K cd__law_orders "_law_orders" = true) (k__law_orders : PySem.W.keepIn K (.ref f__law_orders) = true)
    (a__subsets : PySem.W.nsIn K mainGlobals "_subsets" = some (some (.ref f__subsets))) (l__subsets : K.lookup f__subsets = some ⟨oc__subsets, od__subsets, .func (PySem.W.fnOf "_subsets" "_subsets" (defArgs (topS 20)) (defBody (topS 20)) (defScope (topS 20)) .none kV__subsets dc__subsets pm__subsets an__subsets cd__subsets ct__subsets), sl__subsets⟩) (c__subsets : PySem.W.codeIn K cd__subsets "_subsets" = true) (k__subsets : PySem.W.keepIn K (.ref f__subsets) = true)
    (a__boarding : PySem.W.nsIn K mainGlobals "_boarding" = some (some (.ref f__boarding))) (l__boarding : K.lookup f__boarding = some ⟨oc__boarding, od__boarding, .func (PySem.W.fnOf "_boarding" "_boarding" (defArgs (topS 19)) (defBody (topS 19)) (defScope (topS 19)) .none kV__boarding dc__boarding pm__boarding an__boarding cd__boarding ct__boarding), sl__boarding⟩) (c__boarding : PySem.W.codeIn K cd__boarding "_boarding" = true) (k__boarding : PySem.W.keepIn K (.ref f__boarding) = true)
    (a_ascends : PySem.W.nsIn K mainGlobals "ascends" = some (some (.ref f_ascends))) (l_ascends : K.lookup f_ascends = some ⟨oc_ascends, od_ascends, .func (PySem.W.fnOf "ascends" "ascends" (defArgs (topS 8)) (defBody (topS 8)) (defScope (topS 8)) .none kV_ascends dc_ascends pm_ascends an_ascends cd_ascends ct_ascends), sl_ascends⟩) (c_ascends : PySem.W.codeIn K cd_ascends "ascends" = true) (k_ascends : PySem.W.keepIn K (.ref f_ascends) = true)
    (a_is_whole : PySem.W.nsIn K mainGlobals "is_whole" = some (some (.ref f_is_whole))) (l_is_whole : K.lookup f_is_whole = some ⟨oc_is_whole, od_is_whole, .func (PySem.W.fnOf "is_whole" "is_whole" (defArgs (topS 7)) (defBody (topS 7)) (defScope (topS 7)) .none kV_is_whole dc_is_whole pm_is_whole an_is_whole cd_is_whole ct_is_whole), sl_is_whole⟩) (c_is_whole : PySem.W.codeIn K cd_is_whole "is_whole" = true) (k_is_whole : PySem.W.keepIn K (.ref f_is_whole) = true)
    (a__check : PySem.W.nsIn K mainGlobals "_check" = some (some (.ref f__check))) (l__check : K.lookup f__check = some ⟨oc__check, od__check, .func (PySem.W.fnOf "_check" "_check" (defArgs (topS 15)) (defBody (topS 15)) (defScope (topS 15)) .none kV__check dc__check pm__check an__check cd__check ct__check), sl__check⟩) (c__check : PySem.W.codeIn K cd__check "_check" = true) (k__check : PySem.W.keepIn K (.ref f__check) = true)
    (a__check_stowing : PySem.W.nsIn K mainGlobals "_check_stowing" = some (some (.ref f__check_stowing))) (l__check_stowing : K.lookup f__check_stowing = some ⟨oc__check_stowing, od__check_stowing, .func (PySem.W.fnOf "_check_stowing" "_check_stowing" (defArgs (topS 16)) (defBody (topS 16)) (defScope (topS 16)) .none kV__check_stowing dc__check_stowing pm__check_stowing an__check_stowing cd__check_stowing ct__check_stowing), sl__check_stowing⟩) (c__check_stowing : PySem.W.codeIn K cd__check_stowing "_check_stowing" = true) (k__check_stowing : PySem.W.keepIn K (.ref f__check_stowing) = true)
    (a_boarding : PySem.W.nsIn K mainGlobals "boarding" = some (some (.ref f_boarding))) (l_boarding : K.lookup f_boarding = some ⟨oc_boarding, od_boarding, .func (PySem.W.fnOf "boarding" "boarding" (defArgs (topS 21)) (defBody (topS 21)) (defScope (topS 21)) .none kV_boarding dc_boarding pm_boarding an_boarding cd_boarding ct_boarding), sl_boarding⟩) (c_boarding : PySem.W.codeIn K cd_boarding "boarding" = true) (k_boarding : PySem.W.keepIn K (.ref f_boarding) = true)
    (a__law_refused : PySem.W.nsIn K mainGlobals "_law_refused" = some (some (.ref f__law_refused))) (l__law_refused : K.lookup f__law_refused = some ⟨oc__law_refused, od__law_refused, .func (PySem.W.fnOf "_law_refused" "_law_refused" (defArgs (topS 27)) (defBody (topS 27)) (defScope (topS 27)) .none kV__law_refused dc__law_refused pm__law_refused an__law_refused cd__law_refused ct__law_refused), sl__law_refused⟩) (c__law_refused : PySem.W.codeIn K cd__law_refused "_law_refused" = true) (k__law_refused : PySem.W.keepIn K (.ref f__law_refused) = true)
    (a__law_worst : PySem.W.nsIn K mainGlobals "_law_worst" = some (some (.ref f__law_worst))) (l__law_worst : K.lookup f__law_worst = some ⟨oc__law_worst, od__law_worst, .func (PySem.W.fnOf "_law_worst" "_law_worst" (defArgs (topS 26)) (defBody (topS 26)) (defScope (topS 26)) .none kV__law_worst dc__law_worst pm__law_worst an__law_worst cd__law_worst ct__law_worst), sl__law_worst⟩) (c__law_worst : PySem.W.codeIn K cd__law_worst "_law_worst" = true) (k__law_worst : PySem.W.keepIn K (.ref f__law_worst) = true)
    (a_steadiest : PySem.W.nsIn K mainGlobals "steadiest" = some (some (.ref f_steadiest))) (l_steadiest : K.lookup f_steadiest = some ⟨oc_steadiest, od_steadiest, .func (PySem.W.fnOf "steadiest" "steadiest" (defArgs (topS 22)) (defBody (topS 22)) (defScope (topS 22)) .none kV_steadiest dc_steadiest pm_steadiest an_steadiest cd_steadiest ct_steadiest), sl_steadiest⟩) (c_steadiest : PySem.W.codeIn K cd_steadiest "steadiest" = true) (k_steadiest : PySem.W.keepIn K (.ref f_steadiest) = true)
    (a__tilt : PySem.W.nsIn K mainGlobals "_tilt" = some (some (.ref f__tilt))) (l__tilt : K.lookup f__tilt = some ⟨oc__tilt, od__tilt, .func (PySem.W.fnOf "_tilt" "_tilt" (defArgs (topS 17)) (defBody (topS 17)) (defScope (topS 17)) .none kV__tilt dc__tilt pm__tilt an__tilt cd__tilt ct__tilt), sl__tilt⟩) (c__tilt : PySem.W.codeIn K cd__tilt "_tilt" = true) (k__tilt : PySem.W.keepIn K (.ref f__tilt) = true)
    (a_tilt_of : PySem.W.nsIn K mainGlobals "tilt_of" = some (some (.ref f_tilt_of))) (l_tilt_of : K.lookup f_tilt_of = some ⟨oc_tilt_of, od_tilt_of, .func (PySem.W.fnOf "tilt_of" "tilt_of" (defArgs (topS 18)) (defBody (topS 18)) (defScope (topS 18)) .none kV_tilt_of dc_tilt_of pm_tilt_of an_tilt_of cd_tilt_of ct_tilt_of), sl_tilt_of⟩) (c_tilt_of : PySem.W.codeIn K cd_tilt_of "tilt_of" = true) (k_tilt_of : PySem.W.keepIn K (.ref f_tilt_of) = true)
    (a_law : PySem.W.nsIn K mainGlobals "law" = some (some (.ref f_law))) (l_law : K.lookup f_law = some ⟨oc_law, od_law, .func (PySem.W.fnOf "law" "law" (defArgs (topS 28)) (defBody (topS 28)) (defScope (topS 28)) .none kV_law dc_law pm_law an_law cd_law ct_law), sl_law⟩) (c_law : PySem.W.codeIn K cd_law "law" = true) (k_law : PySem.W.keepIn K (.ref f_law) = true)
    (n_range : PySem.W.nsIn K mainGlobals "range" = some none)
    (n_tuple : PySem.W.nsIn K mainGlobals "tuple" = some none)
    (n_int : PySem.W.nsIn K mainGlobals "int" = some none)
    (n_sorted : PySem.W.nsIn K mainGlobals "sorted" = some none)
    (n_set : PySem.W.nsIn K mainGlobals "set" = some none)
    (n_min : PySem.W.nsIn K mainGlobals "min" = some none)
    (n_len : PySem.W.nsIn K mainGlobals "len" = some none)
    (n_max : PySem.W.nsIn K mainGlobals "max" = some none)
    (n_all : PySem.W.nsIn K mainGlobals "all" = some none)
    (n_abs : PySem.W.nsIn K mainGlobals "abs" = some none)
    (n_isinstance : PySem.W.nsIn K mainGlobals "isinstance" = some none)
    (v_MOST_TILT : PySem.W.nsIn K mainGlobals "MOST_TILT" = some (some (.int (100000) t_v_MOST_TILT)))
    (n_sum : PySem.W.nsIn K mainGlobals "sum" = some none)
    (v_MOST_FAR : PySem.W.nsIn K mainGlobals "MOST_FAR" = some (some (.int (20) t_v_MOST_FAR)))
    (v_MOST_SEATS : PySem.W.nsIn K mainGlobals "MOST_SEATS" = some (some (.int (8) t_v_MOST_SEATS)))
    (v_MOST_LOADS : PySem.W.nsIn K mainGlobals "MOST_LOADS" = some (some (.int (6) t_v_MOST_LOADS)))
    (v_MOST_HEAVY : PySem.W.nsIn K mainGlobals "MOST_HEAVY" = some (some (.int (100) t_v_MOST_HEAVY)))
    (n_zip : PySem.W.nsIn K mainGlobals "zip" = some none)
    (n_bool : PySem.W.nsIn K mainGlobals "bool" = some none)
    (xa_BadLoads : PySem.W.nsIn K mainGlobals "BadLoads" = some (some (.ref C_BadLoads))) (xk_BadLoads : PySem.W.keepIn K (.ref C_BadLoads) = true) (xs_BadLoads : PySem.W.subIn K (.ref C_BadLoads) (.type "BaseException") = some true) (xt_BadLoads : PySem.W.typeIn K (.ref C_BadLoads) = some (.type "type")) (xh_BadLoads : PySem.W.hasDictIn K C_BadLoads = true)
    (xx_BadLoads : PySem.W.excIn K C_BadLoads [.type "ValueError", .type "Exception", .type "BaseException", .type "object"] "ValueError.__new__" = true)
    (e1_BadLoads : PySem.W.findIn K (.ref C_BadLoads) "__getattribute__" = some (some (.builtin "BaseException.__getattribute__"))) (e2_BadLoads : PySem.W.findIn K (.ref C_BadLoads) "__getattr__" = some none) (e3_BadLoads : PySem.W.findIn K (.ref C_BadLoads) "__class__" = some (some (.builtin "object.__class__"))) (e4_BadLoads : PySem.W.specialIn K (.builtin "object.__class__") "__get__" = some (some (.builtin "getset_descriptor.__get__"))) (e5_BadLoads : PySem.W.takesIn K (.builtin "object.__class__") = some true) (e6_BadLoads : PySem.W.mroIn K C_BadLoads (.type "object") = some true)
    (xa_BadMost : PySem.W.nsIn K mainGlobals "BadMost" = some (some (.ref C_BadMost))) (xk_BadMost : PySem.W.keepIn K (.ref C_BadMost) = true) (xs_BadMost : PySem.W.subIn K (.ref C_BadMost) (.type "BaseException") = some true) (xt_BadMost : PySem.W.typeIn K (.ref C_BadMost) = some (.type "type")) (xh_BadMost : PySem.W.hasDictIn K C_BadMost = true)
    (z_BadMost : PySem.W.subIn K (.ref C_BadMost) (.ref C_BadMost) = some true)
    (xx_BadMost : PySem.W.excIn K C_BadMost [.type "ValueError", .type "Exception", .type "BaseException", .type "object"] "ValueError.__new__" = true)
    (e1_BadMost : PySem.W.findIn K (.ref C_BadMost) "__getattribute__" = some (some (.builtin "BaseException.__getattribute__"))) (e2_BadMost : PySem.W.findIn K (.ref C_BadMost) "__getattr__" = some none) (e3_BadMost : PySem.W.findIn K (.ref C_BadMost) "__class__" = some (some (.builtin "object.__class__"))) (e4_BadMost : PySem.W.specialIn K (.builtin "object.__class__") "__get__" = some (some (.builtin "getset_descriptor.__get__"))) (e5_BadMost : PySem.W.takesIn K (.builtin "object.__class__") = some true) (e6_BadMost : PySem.W.mroIn K C_BadMost (.type "object") = some true)
    (xa_BadSeats : PySem.W.nsIn K mainGlobals "BadSeats" = some (some (.ref C_BadSeats))) (xk_BadSeats : PySem.W.keepIn K (.ref C_BadSeats) = true) (xs_BadSeats : PySem.W.subIn K (.ref C_BadSeats) (.type "BaseException") = some true) (xt_BadSeats : PySem.W.typeIn K (.ref C_BadSeats) = some (.type "type")) (xh_BadSeats : PySem.W.hasDictIn K C_BadSeats = true)
    (xx_BadSeats : PySem.W.excIn K C_BadSeats [.type "ValueError", .type "Exception", .type "BaseException", .type "object"] "ValueError.__new__" = true)
    (e1_BadSeats : PySem.W.findIn K (.ref C_BadSeats) "__getattribute__" = some (some (.builtin "BaseException.__getattribute__"))) (e2_BadSeats : PySem.W.findIn K (.ref C_BadSeats) "__getattr__" = some none) (e3_BadSeats : PySem.W.findIn K (.ref C_BadSeats) "__class__" = some (some (.builtin "object.__class__"))) (e4_BadSeats : PySem.W.specialIn K (.builtin "object.__class__") "__get__" = some (some (.builtin "getset_descriptor.__get__"))) (e5_BadSeats : PySem.W.takesIn K (.builtin "object.__class__") = some true) (e6_BadSeats : PySem.W.mroIn K C_BadSeats (.type "object") = some true)
    (xa_BadStowing : PySem.W.nsIn K mainGlobals "BadStowing" = some (some (.ref C_BadStowing))) (xk_BadStowing : PySem.W.keepIn K (.ref C_BadStowing) = true) (xs_BadStowing : PySem.W.subIn K (.ref C_BadStowing) (.type "BaseException") = some true) (xt_BadStowing : PySem.W.typeIn K (.ref C_BadStowing) = some (.type "type")) (xh_BadStowing : PySem.W.hasDictIn K C_BadStowing = true)
    (xx_BadStowing : PySem.W.excIn K C_BadStowing [.type "ValueError", .type "Exception", .type "BaseException", .type "object"] "ValueError.__new__" = true)
    (e1_BadStowing : PySem.W.findIn K (.ref C_BadStowing) "__getattribute__" = some (some (.builtin "BaseException.__getattribute__"))) (e2_BadStowing : PySem.W.findIn K (.ref C_BadStowing) "__getattr__" = some none) (e3_BadStowing : PySem.W.findIn K (.ref C_BadStowing) "__class__" = some (some (.builtin "object.__class__"))) (e4_BadStowing : PySem.W.specialIn K (.builtin "object.__class__") "__get__" = some (some (.builtin "getset_descriptor.__get__"))) (e5_BadStowing : PySem.W.takesIn K (.builtin "object.__class__") = some true) (e6_BadStowing : PySem.W.mroIn K C_BadStowing (.type "object") = some true)
    (xa_ChestError : PySem.W.nsIn K mainGlobals "ChestError" = some (some (.ref C_ChestError))) (xk_ChestError : PySem.W.keepIn K (.ref C_ChestError) = true) (xs_ChestError : PySem.W.subIn K (.ref C_ChestError) (.type "BaseException") = some true) (xt_ChestError : PySem.W.typeIn K (.ref C_ChestError) = some (.type "type")) (xh_ChestError : PySem.W.hasDictIn K C_ChestError = true)
    (z_ChestError : PySem.W.subIn K (.ref C_ChestError) (.ref C_ChestError) = some true)
    (p_BadLoads_BadMost : PySem.W.subIn K (.ref C_BadLoads) (.ref C_BadMost) = some false)
    (p_BadLoads_ChestError : PySem.W.subIn K (.ref C_BadLoads) (.ref C_ChestError) = some true)
    (p_BadMost_BadMost : PySem.W.subIn K (.ref C_BadMost) (.ref C_BadMost) = some true)
    (p_BadMost_ChestError : PySem.W.subIn K (.ref C_BadMost) (.ref C_ChestError) = some true)
    (p_BadSeats_BadMost : PySem.W.subIn K (.ref C_BadSeats) (.ref C_BadMost) = some false)
    (p_BadSeats_ChestError : PySem.W.subIn K (.ref C_BadSeats) (.ref C_ChestError) = some true)
    (p_BadStowing_BadMost : PySem.W.subIn K (.ref C_BadStowing) (.ref C_BadMost) = some false)
    (p_BadStowing_ChestError : PySem.W.subIn K (.ref C_BadStowing) (.ref C_ChestError) = some true) :
    ∃ fd : FuncData, (∀ (s : Shared) (v : Value), BindsTo s fd ⟨[v], []⟩ [("script", v)]) ∧ ∀ base : Heap, K.In base → base.Ns mainGlobals mg → FnOk l.prog w K mg base (L2.CX l.prog w) 6 fa fd ["script"] (spLaw K) := by
  have e := hfa.symm.trans (PySem.W.mg_of X G a_law)
  cases e
  have F__law_draws := fun_mk (st := topS 24) l__law_draws c__law_draws k__law_draws
  have b__law_draws := F__law_draws.binds (ps := ["script", "many"]) fun _ _ _ _ _ _ us hl => match us, hl with | [_, _], _ => rfl
  have F__law_orders := fun_mk (st := topS 25) l__law_orders c__law_orders k__law_orders
  have b__law_orders := F__law_orders.binds (ps := ["count"]) fun _ _ _ _ _ _ us hl => match us, hl with | [_], _ => rfl
  have F__subsets := fun_mk (st := topS 20) l__subsets c__subsets k__subsets
  have b__subsets := F__subsets.binds (ps := ["many"]) fun _ _ _ _ _ _ us hl => match us, hl with | [_], _ => rfl
  have F__boarding := fun_mk (st := topS 19) l__boarding c__boarding k__boarding
  have b__boarding := F__boarding.binds (ps := ["loads", "stowing", "most"]) fun _ _ _ _ _ _ us hl => match us, hl with | [_, _, _], _ => rfl
  have F_ascends := fun_mk (st := topS 8) l_ascends c_ascends k_ascends
  have b_ascends := F_ascends.binds (ps := ["values"]) fun _ _ _ _ _ _ us hl => match us, hl with | [_], _ => rfl
  have F_is_whole := fun_mk (st := topS 7) l_is_whole c_is_whole k_is_whole
  have b_is_whole := F_is_whole.binds (ps := ["value", "least", "most"]) fun _ _ _ _ _ _ us hl => match us, hl with | [_, _, _], _ => rfl
  have F__check := fun_mk (st := topS 15) l__check c__check k__check
  have b__check := F__check.binds (ps := ["loads", "seats"]) fun _ _ _ _ _ _ us hl => match us, hl with | [_, _], _ => rfl
  have F__check_stowing := fun_mk (st := topS 16) l__check_stowing c__check_stowing k__check_stowing
  have b__check_stowing := F__check_stowing.binds (ps := ["loads", "seats", "stowing"]) fun _ _ _ _ _ _ us hl => match us, hl with | [_, _, _], _ => rfl
  have F_boarding := fun_mk (st := topS 21) l_boarding c_boarding k_boarding
  have b_boarding := F_boarding.binds (ps := ["loads", "seats", "stowing", "most"]) fun _ _ _ _ _ _ us hl => match us, hl with | [_, _, _, _], _ => rfl
  have F__law_refused := fun_mk (st := topS 27) l__law_refused c__law_refused k__law_refused
  have b__law_refused := F__law_refused.binds (ps := ["loads", "seats", "stowing", "most"]) fun _ _ _ _ _ _ us hl => match us, hl with | [_, _, _, _], _ => rfl
  have F__law_worst := fun_mk (st := topS 26) l__law_worst c__law_worst k__law_worst
  have b__law_worst := F__law_worst.binds (ps := ["loads", "stowing", "order"]) fun _ _ _ _ _ _ us hl => match us, hl with | [_, _, _], _ => rfl
  have F_steadiest := fun_mk (st := topS 22) l_steadiest c_steadiest k_steadiest
  have b_steadiest := F_steadiest.binds (ps := ["loads", "seats", "stowing"]) fun _ _ _ _ _ _ us hl => match us, hl with | [_, _, _], _ => rfl
  have F__tilt := fun_mk (st := topS 17) l__tilt c__tilt k__tilt
  have b__tilt := F__tilt.binds (ps := ["loads", "stowing"]) fun _ _ _ _ _ _ us hl => match us, hl with | [_, _], _ => rfl
  have F_tilt_of := fun_mk (st := topS 18) l_tilt_of c_tilt_of k_tilt_of
  have b_tilt_of := F_tilt_of.binds (ps := ["loads", "seats", "stowing"]) fun _ _ _ _ _ _ us hl => match us, hl with | [_, _, _], _ => rfl
  have F_law := fun_mk (st := topS 28) l_law c_law k_law
  have b_law := F_law.binds (ps := ["script"]) fun _ _ _ _ _ _ us hl => match us, hl with | [_], _ => rfl
  exact ⟨_, fun s v => .of_eq rfl, fun base _ _ => FnOk.imp (ok_law (T := {
    a__law_draws := f__law_draws, d__law_draws := _, g__law_draws := PySem.W.mg_of X G a__law_draws, F__law_draws := F__law_draws, b__law_draws := b__law_draws,
    a__law_orders := f__law_orders, d__law_orders := _, g__law_orders := PySem.W.mg_of X G a__law_orders, F__law_orders := F__law_orders, b__law_orders := b__law_orders,
    a__subsets := f__subsets, d__subsets := _, g__subsets := PySem.W.mg_of X G a__subsets, F__subsets := F__subsets, b__subsets := b__subsets,
    a__boarding := f__boarding, d__boarding := _, g__boarding := PySem.W.mg_of X G a__boarding, F__boarding := F__boarding, b__boarding := b__boarding,
    a_ascends := f_ascends, d_ascends := _, g_ascends := PySem.W.mg_of X G a_ascends, F_ascends := F_ascends, b_ascends := b_ascends,
    a_is_whole := f_is_whole, d_is_whole := _, g_is_whole := PySem.W.mg_of X G a_is_whole, F_is_whole := F_is_whole, b_is_whole := b_is_whole,
    a__check := f__check, d__check := _, g__check := PySem.W.mg_of X G a__check, F__check := F__check, b__check := b__check,
    a__check_stowing := f__check_stowing, d__check_stowing := _, g__check_stowing := PySem.W.mg_of X G a__check_stowing, F__check_stowing := F__check_stowing, b__check_stowing := b__check_stowing,
    a_boarding := f_boarding, d_boarding := _, g_boarding := PySem.W.mg_of X G a_boarding, F_boarding := F_boarding, b_boarding := b_boarding,
    a__law_refused := f__law_refused, d__law_refused := _, g__law_refused := PySem.W.mg_of X G a__law_refused, F__law_refused := F__law_refused, b__law_refused := b__law_refused,
    a__law_worst := f__law_worst, d__law_worst := _, g__law_worst := PySem.W.mg_of X G a__law_worst, F__law_worst := F__law_worst, b__law_worst := b__law_worst,
    a_steadiest := f_steadiest, d_steadiest := _, g_steadiest := PySem.W.mg_of X G a_steadiest, F_steadiest := F_steadiest, b_steadiest := b_steadiest,
    a__tilt := f__tilt, d__tilt := _, g__tilt := PySem.W.mg_of X G a__tilt, F__tilt := F__tilt, b__tilt := b__tilt,
    a_tilt_of := f_tilt_of, d_tilt_of := _, g_tilt_of := PySem.W.mg_of X G a_tilt_of, F_tilt_of := F_tilt_of, b_tilt_of := b_tilt_of,
    a_law := fa, d_law := _, g_law := PySem.W.mg_of X G a_law, F_law := F_law, b_law := b_law,
    n_range := PySem.W.mg_none_of X G n_range,
    n_tuple := PySem.W.mg_none_of X G n_tuple,
    n_int := PySem.W.mg_none_of X G n_int,
    n_sorted := PySem.W.mg_none_of X G n_sorted,
    n_set := PySem.W.mg_none_of X G n_set,
    n_min := PySem.W.mg_none_of X G n_min,
    n_len := PySem.W.mg_none_of X G n_len,
    n_max := PySem.W.mg_none_of X G n_max,
    n_all := PySem.W.mg_none_of X G n_all,
    n_abs := PySem.W.mg_none_of X G n_abs,
    n_isinstance := PySem.W.mg_none_of X G n_isinstance,
    v_MOST_TILT := ⟨_, PySem.W.mg_of X G v_MOST_TILT⟩,
    n_sum := PySem.W.mg_none_of X G n_sum,
    v_MOST_FAR := ⟨_, PySem.W.mg_of X G v_MOST_FAR⟩,
    v_MOST_SEATS := ⟨_, PySem.W.mg_of X G v_MOST_SEATS⟩,
    v_MOST_LOADS := ⟨_, PySem.W.mg_of X G v_MOST_LOADS⟩,
    v_MOST_HEAVY := ⟨_, PySem.W.mg_of X G v_MOST_HEAVY⟩,
    n_zip := PySem.W.mg_none_of X G n_zip,
    n_bool := PySem.W.mg_none_of X G n_bool,
    C_BadLoads := C_BadLoads, c_BadLoads := PySem.W.mg_of X G xa_BadLoads, k_BadLoads := xk_BadLoads, s_BadLoads := xs_BadLoads, t_BadLoads := xt_BadLoads, h_BadLoads := xh_BadLoads,
    x_BadLoads := xx_BadLoads,
    e_BadLoads := ⟨e1_BadLoads, e2_BadLoads, xs_BadLoads, xh_BadLoads, e3_BadLoads, e4_BadLoads, e5_BadLoads, e6_BadLoads⟩,
    C_BadMost := C_BadMost, c_BadMost := PySem.W.mg_of X G xa_BadMost, k_BadMost := xk_BadMost, s_BadMost := xs_BadMost, t_BadMost := xt_BadMost, h_BadMost := xh_BadMost,
    z_BadMost := z_BadMost,
    x_BadMost := xx_BadMost,
    e_BadMost := ⟨e1_BadMost, e2_BadMost, xs_BadMost, xh_BadMost, e3_BadMost, e4_BadMost, e5_BadMost, e6_BadMost⟩,
    C_BadSeats := C_BadSeats, c_BadSeats := PySem.W.mg_of X G xa_BadSeats, k_BadSeats := xk_BadSeats, s_BadSeats := xs_BadSeats, t_BadSeats := xt_BadSeats, h_BadSeats := xh_BadSeats,
    x_BadSeats := xx_BadSeats,
    e_BadSeats := ⟨e1_BadSeats, e2_BadSeats, xs_BadSeats, xh_BadSeats, e3_BadSeats, e4_BadSeats, e5_BadSeats, e6_BadSeats⟩,
    C_BadStowing := C_BadStowing, c_BadStowing := PySem.W.mg_of X G xa_BadStowing, k_BadStowing := xk_BadStowing, s_BadStowing := xs_BadStowing, t_BadStowing := xt_BadStowing, h_BadStowing := xh_BadStowing,
    x_BadStowing := xx_BadStowing,
    e_BadStowing := ⟨e1_BadStowing, e2_BadStowing, xs_BadStowing, xh_BadStowing, e3_BadStowing, e4_BadStowing, e5_BadStowing, e6_BadStowing⟩,
    C_ChestError := C_ChestError, c_ChestError := PySem.W.mg_of X G xa_ChestError, k_ChestError := xk_ChestError, s_ChestError := xs_ChestError, t_ChestError := xt_ChestError, h_ChestError := xh_ChestError,
    z_ChestError := z_ChestError,
    p_BadLoads_BadMost := p_BadLoads_BadMost,
    p_BadLoads_ChestError := p_BadLoads_ChestError,
    p_BadMost_BadMost := p_BadMost_BadMost,
    p_BadMost_ChestError := p_BadMost_ChestError,
    p_BadSeats_BadMost := p_BadSeats_BadMost,
    p_BadSeats_ChestError := p_BadSeats_ChestError,
    p_BadStowing_BadMost := p_BadStowing_BadMost,
    p_BadStowing_ChestError := p_BadStowing_ChestError })) (law_imp law_true)⟩
end Nk53
open PySem PySem.W PyProof.Rows
set_option maxHeartbeats 0 in
theorem PySem.Challenge.cw_chestwright_k53_whole_boarding_holds : PySem.Challenge.rw_chestwright_k53_whole_boarding.Holds := by
  w_on; o_law; k_head; (case hw => w_witness2)
  k_fill
  refine L2.walk_of (l := PySem.Challenge.rw_chestwright_k53_whole_boarding) (n := 63) (k := 6) (x := "script") (CX := fun w => L2.CX (PySem.Challenge.rw_chestwright_k53_whole_boarding).prog w) (sp := fun w => Den.spLaw _) rfl (by decide) rfl ⟨rfl, by decide, by decide⟩ (fun w h Y => PySem.W.kIn_of Y) ?F (fun _ _ a ns hl _ hS => ⟨a, ns, rfl, hS, hl, fun _ => rfl⟩) (fun _ _ _ _ _ h => Den.cx_never h)
  case F =>
    intro w mg fa h KX G hmg
    refine' Nk53.all_mk KX G hmg ?a__law_draws ?l__law_draws ?c__law_draws ?k__law_draws ?a__law_orders ?l__law_orders ?c__law_orders ?k__law_orders ?a__subsets ?l__subsets ?c__subsets ?k__subsets ?a__boarding ?l__boarding ?c__boarding ?k__boarding ?a_ascends ?l_ascends ?c_ascends ?k_ascends ?a_is_whole ?l_is_whole ?c_is_whole ?k_is_whole ?a__check ?l__check ?c__check ?k__check ?a__check_stowing ?l__check_stowing ?c__check_stowing ?k__check_stowing ?a_boarding ?l_boarding ?c_boarding ?k_boarding ?a__law_refused ?l__law_refused ?c__law_refused ?k__law_refused ?a__law_worst ?l__law_worst ?c__law_worst ?k__law_worst ?a_steadiest ?l_steadiest ?c_steadiest ?k_steadiest ?a__tilt ?l__tilt ?c__tilt ?k__tilt ?a_tilt_of ?l_tilt_of ?c_tilt_of ?k_tilt_of ?a_law ?l_law ?c_law ?k_law ?n_range ?n_tuple ?n_int ?n_sorted ?n_set ?n_min ?n_len ?n_max ?n_all ?n_abs ?n_isinstance ?v_MOST_TILT ?n_sum ?v_MOST_FAR ?v_MOST_SEATS ?v_MOST_LOADS ?v_MOST_HEAVY ?n_zip ?n_bool ?xa_BadLoads ?xk_BadLoads ?xs_BadLoads ?xt_BadLoads ?xh_BadLoads ?xx_BadLoads ?e1_BadLoads ?e2_BadLoads ?e3_BadLoads ?e4_BadLoads ?e5_BadLoads ?e6_BadLoads ?xa_BadMost ?xk_BadMost ?xs_BadMost ?xt_BadMost ?xh_BadMost ?z_BadMost ?xx_BadMost ?e1_BadMost ?e2_BadMost ?e3_BadMost ?e4_BadMost ?e5_BadMost ?e6_BadMost ?xa_BadSeats ?xk_BadSeats ?xs_BadSeats ?xt_BadSeats ?xh_BadSeats ?xx_BadSeats ?e1_BadSeats ?e2_BadSeats ?e3_BadSeats ?e4_BadSeats ?e5_BadSeats ?e6_BadSeats ?xa_BadStowing ?xk_BadStowing ?xs_BadStowing ?xt_BadStowing ?xh_BadStowing ?xx_BadStowing ?e1_BadStowing ?e2_BadStowing ?e3_BadStowing ?e4_BadStowing ?e5_BadStowing ?e6_BadStowing ?xa_ChestError ?xk_ChestError ?xs_ChestError ?xt_ChestError ?xh_ChestError ?z_ChestError ?p_BadLoads_BadMost ?p_BadLoads_ChestError ?p_BadMost_BadMost ?p_BadMost_ChestError ?p_BadSeats_BadMost ?p_BadSeats_ChestError ?p_BadStowing_BadMost ?p_BadStowing_ChestError
    (case a__law_draws => k_is)
    (case l__law_draws => k_is)
    (case c__law_draws => k_is)
    (case k__law_draws => k_is)
    (case a__law_orders => k_is)
    (case l__law_orders => k_is)
    (case c__law_orders => k_is)
    (case k__law_orders => k_is)
    (case a__subsets => k_is)
    (case l__subsets => k_is)
    (case c__subsets => k_is)
    (case k__subsets => k_is)
    (case a__boarding => k_is)
    (case l__boarding => k_is)
    (case c__boarding => k_is)
    (case k__boarding => k_is)
    (case a_ascends => k_is)
    (case l_ascends => k_is)
    (case c_ascends => k_is)
    (case k_ascends => k_is)
    (case a_is_whole => k_is)
    (case l_is_whole => k_is)
    (case c_is_whole => k_is)
    (case k_is_whole => k_is)
    (case a__check => k_is)
    (case l__check => k_is)
    (case c__check => k_is)
    (case k__check => k_is)
    (case a__check_stowing => k_is)
    (case l__check_stowing => k_is)
    (case c__check_stowing => k_is)
    (case k__check_stowing => k_is)
    (case a_boarding => k_is)
    (case l_boarding => k_is)
    (case c_boarding => k_is)
    (case k_boarding => k_is)
    (case a__law_refused => k_is)
    (case l__law_refused => k_is)
    (case c__law_refused => k_is)
    (case k__law_refused => k_is)
    (case a__law_worst => k_is)
    (case l__law_worst => k_is)
    (case c__law_worst => k_is)
    (case k__law_worst => k_is)
    (case a_steadiest => k_is)
    (case l_steadiest => k_is)
    (case c_steadiest => k_is)
    (case k_steadiest => k_is)
    (case a__tilt => k_is)
    (case l__tilt => k_is)
    (case c__tilt => k_is)
    (case k__tilt => k_is)
    (case a_tilt_of => k_is)
    (case l_tilt_of => k_is)
    (case c_tilt_of => k_is)
    (case k_tilt_of => k_is)
    (case a_law => k_is)
    (case l_law => k_is)
    (case c_law => k_is)
    (case k_law => k_is)
    (case n_range => k_is)
    (case n_tuple => k_is)
    (case n_int => k_is)
    (case n_sorted => k_is)
    (case n_set => k_is)
    (case n_min => k_is)
    (case n_len => k_is)
    (case n_max => k_is)
    (case n_all => k_is)
    (case n_abs => k_is)
    (case n_isinstance => k_is)
    (case v_MOST_TILT => k_is)
    (case n_sum => k_is)
    (case v_MOST_FAR => k_is)
    (case v_MOST_SEATS => k_is)
    (case v_MOST_LOADS => k_is)
    (case v_MOST_HEAVY => k_is)
    (case n_zip => k_is)
    (case n_bool => k_is)
    (case xa_BadLoads => k_is)
    (case xk_BadLoads => k_is)
    (case xs_BadLoads => k_is)
    (case xt_BadLoads => k_is)
    (case xh_BadLoads => k_is)
    (case xx_BadLoads => k_exc)
    (case e1_BadLoads => k_is)
    (case e2_BadLoads => k_is)
    (case e3_BadLoads => k_is)
    (case e4_BadLoads => k_is)
    (case e5_BadLoads => k_is)
    (case e6_BadLoads => k_is)
    (case xa_BadMost => k_is)
    (case xk_BadMost => k_is)
    (case xs_BadMost => k_is)
    (case xt_BadMost => k_is)
    (case xh_BadMost => k_is)
    (case z_BadMost => first | rfl | k_is)
    (case xx_BadMost => k_exc)
    (case e1_BadMost => k_is)
    (case e2_BadMost => k_is)
    (case e3_BadMost => k_is)
    (case e4_BadMost => k_is)
    (case e5_BadMost => k_is)
    (case e6_BadMost => k_is)
    (case xa_BadSeats => k_is)
    (case xk_BadSeats => k_is)
    (case xs_BadSeats => k_is)
    (case xt_BadSeats => k_is)
    (case xh_BadSeats => k_is)
    (case xx_BadSeats => k_exc)
    (case e1_BadSeats => k_is)
    (case e2_BadSeats => k_is)
    (case e3_BadSeats => k_is)
    (case e4_BadSeats => k_is)
    (case e5_BadSeats => k_is)
    (case e6_BadSeats => k_is)
    (case xa_BadStowing => k_is)
    (case xk_BadStowing => k_is)
    (case xs_BadStowing => k_is)
    (case xt_BadStowing => k_is)
    (case xh_BadStowing => k_is)
    (case xx_BadStowing => k_exc)
    (case e1_BadStowing => k_is)
    (case e2_BadStowing => k_is)
    (case e3_BadStowing => k_is)
    (case e4_BadStowing => k_is)
    (case e5_BadStowing => k_is)
    (case e6_BadStowing => k_is)
    (case xa_ChestError => k_is)
    (case xk_ChestError => k_is)
    (case xs_ChestError => k_is)
    (case xt_ChestError => k_is)
    (case xh_ChestError => k_is)
    (case z_ChestError => first | rfl | k_is)
    (case p_BadLoads_BadMost => k_is)
    (case p_BadLoads_ChestError => k_is)
    (case p_BadMost_BadMost => k_is)
    (case p_BadMost_ChestError => k_is)
    (case p_BadSeats_BadMost => k_is)
    (case p_BadSeats_ChestError => k_is)
    (case p_BadStowing_BadMost => k_is)
    (case p_BadStowing_ChestError => k_is)
