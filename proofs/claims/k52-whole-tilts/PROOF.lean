import PyProof.Rows.All
import Wide.All
import OpenK.AllK
import Wide.FinOn
import HandS.ForMost
import HandS.Exc
import HandS.TryOnly
import HandS.TryMany
import HandS.ExcOwn
import HandS.WordsExc
import HandS.Wide
import HandS.TupAny
import HandS.TupLe
import HandS.TupMul
import HandS.Deep
import HandS.IsInst
import HandS.Style
import PyProof.Rows.InDataRows
import KE.LtData
import KE.SortData
import HandS.Walk
import HandS.Zip
import HandS.Codes
import HandS.RevTup
import HandS.SetFor
import KE.DataMinMax
import HandS.Set
import HandS.Strs
import HandS.DictComp
import HandS.WordsDict
import HandS.More
import HandS.ExcIs
import HandS.ExcField
import HandS.Conv
import PySem.Challenge.RW_chestwright_k52_whole_tilts
set_option Elab.async false
set_option linter.all false
set_option maxRecDepth 100000
set_option maxHeartbeats 4000000
namespace Den
open PySem PySem.Spec PyProof.Rows L2

abbrev St := L2.St
/-! ### denotations: values are PyData; what cannot be followed is stuck, an own error is exc -/
inductive Err where
  | stuck
  | exc (n : String) (p : Option (String × PyData))
abbrev Rs := Except Err
abbrev stuck {α : Type} : Rs α := .error .stuck
/-- a slot: nothing; a value that is never changed; a list of one's own; a list that is read alone; a dict of one's own -/
inductive B where
  | un
  | dat (d : PyData)
  | ol (l : List PyData)
  | fz (l : List PyData)
  | od (kvs : List (PyData × PyData))
abbrev EnvD := List B
abbrev DE := EnvD → Rs PyData
abbrev DL := EnvD → Rs (List PyData)
abbrev DT := EnvD → Rs Bool

/-! ### a value that bears a datum; O: the objects that may still change -/
def LAt (H : Hp) (O : Addr → Prop) (a : Addr) (xs : List V) : Prop := H a = some (.lst xs) ∧ ¬ O a
def TAt (K : PySem.W.Frag) (H : Hp) (O : Addr → Prop) (a : Addr) (xs : List V) : Prop :=
  (Rd H a (.tup xs) ∧ ¬ O a) ∨
    ∃ (o : Obj) (its : Array Value) (n : Nat), K.lookup a = some o ∧ o.cls = .type "tuple" ∧ o.data = .seq its n ∧ its.size ≤ sizeLine ∧ Vals xs its.toList
mutual
inductive Rep (K : PySem.W.Frag) (H : Hp) (O : Addr → Prop) : V → PyData → Prop
  | non : Rep K H O .non .none
  | bl (b : Bool) : Rep K H O (.bl b) (.bool b)
  | int (i : Int) : Rep K H O (.int i) (.int i)
  | str (x : Str) : Rep K H O (.str x) (.str x)
  | lst {a : Addr} {xs : List V} {ds : List PyData} : LAt H O a xs → RepAll K H O xs ds → Rep K H O (.ref a) (.list ds)
  | tup {a : Addr} {xs : List V} {ds : List PyData} : TAt K H O a xs → RepAll K H O xs ds → Rep K H O (.ref a) (.tuple ds)
inductive RepAll (K : PySem.W.Frag) (H : Hp) (O : Addr → Prop) : List V → List PyData → Prop
  | nil : RepAll K H O [] []
  | cons {v : V} {vs : List V} {d : PyData} {ds : List PyData} : Rep K H O v d → RepAll K H O vs ds → RepAll K H O (v :: vs) (d :: ds)
end
section
variable {K : PySem.W.Frag} {H H' H1 H2 : Hp} {O O' : Addr → Prop}
theorem LAt.sql {a xs} (h : LAt H O a xs) : SqL K H a xs := SqL.of h.1
theorem TAt.sqt {a xs} (h : TAt K H O a xs) : SqT K H a xs := h.elim (fun h => .inl h.1) .inr
abbrev Reps (K : PySem.W.Frag) (H : Hp) (O : Addr → Prop) : List V → List PyData → Prop := Paired (Rep K H O)
theorem RepAll.iff : ∀ {vs : List V} {ds : List PyData}, RepAll K H O vs ds ↔ Reps K H O vs ds
  | [], [] => ⟨fun _ => .nil, fun _ => .nil⟩
  | [], _ :: _ => ⟨(fun h => nomatch h), (fun h => nomatch h)⟩
  | _ :: _, [] => ⟨(fun h => nomatch h), (fun h => nomatch h)⟩
  | v :: vs, d :: ds => by
    constructor
    · intro h
      cases h with
      | cons a b => exact .cons a (RepAll.iff.mp b)
    · intro h
      cases h with
      | cons a b => exact .cons a (RepAll.iff.mpr b)
mutual
theorem Rep.dp : ∀ {d : PyData} {v : V}, Rep K H O v d → Dp K H v d
  | .none, _, h => by cases h; exact .non
  | .bool b, _, h => by cases h; exact .bl b
  | .int i, _, h => by cases h; exact .int i
  | .str x, _, h => by cases h; exact .str x
  | .list ds, _, h => by
    cases h with
    | lst a b => exact .lst a.sql (RepAll.dp b)
  | .tuple ds, _, h => by
    cases h with
    | tup a b => exact .tup a.sqt (RepAll.dp b)
  | .dict _, _, h => by cases h
theorem RepAll.dp : ∀ {ds : List PyData} {vs : List V}, RepAll K H O vs ds → DpAll K H vs ds
  | [], _, h => by cases h; exact .nil
  | d :: ds, _, h => by
    cases h with
    | cons a b => exact .cons (Rep.dp a) (RepAll.dp b)
end
/-- what may have changed: the objects of O; new ones may be of O' -/
structure Ext (H : Hp) (O : Addr → Prop) (H' : Hp) (O' : Addr → Prop) : Prop where
  keep : ∀ a o, H a = some o → ¬ O a → H' a = some o
  own : ∀ a, O' a → O a ∨ H a = none
  there : ∀ a o, H a = some o → ∃ o', H' a = some o'
theorem Ext.refl : Ext H O H O := ⟨fun _ _ h _ => h, fun _ h => .inl h, fun _ o h => ⟨o, h⟩⟩
theorem Ext.same (s : Same H H') : Ext H O H' O := ⟨fun a o h _ => s a o h, fun _ h => .inl h, fun a o h => ⟨o, s a o h⟩⟩
theorem Ext.trans {O1 O2 : Addr → Prop} (e : Ext H O H1 O1) (f : Ext H1 O1 H2 O2) : Ext H O H2 O2 where
  keep := fun a o h n => f.keep a o (e.keep a o h n) fun q => (e.own a q).elim n fun z => by rw [z] at h; cases h
  own := fun a q => by
    rcases f.own a q with q | q
    · exact e.own a q
    · cases z : H a with
      | none => exact .inr rfl
      | some o =>
        obtain ⟨o', h'⟩ := e.there a o z
        rw [h'] at q; cases q
  there := fun a o h => by
    obtain ⟨o', h'⟩ := e.there a o h
    exact f.there a o' h'
theorem Ext.less {O1 : Addr → Prop} (h : ∀ a, O1 a → O a) : Ext H O H O1 := ⟨fun _ _ h _ => h, fun a q => .inl (h a q), fun _ o h => ⟨o, h⟩⟩
theorem Ext.rd {a : Addr} {u : HO} (e : Ext H O H' O') (h : Rd H a u ∧ ¬ O a) : Rd H' a u ∧ ¬ O' a := by
  obtain ⟨h, n⟩ := h
  have q : ∀ o, H a = some o → ¬ O' a := fun o z q => (e.own a q).elim n fun y => by rw [y] at z; cases z
  rcases h with h | ⟨o, h⟩
  · exact ⟨.inl (e.keep a _ h n), q _ h⟩
  · exact ⟨.inr ⟨o, e.keep a _ h n⟩, q _ h⟩
theorem LAt.ext {a xs} (e : Ext H O H' O') (h : LAt H O a xs) : LAt H' O' a xs := ⟨e.keep a _ h.1 h.2, fun q => (e.own a q).elim h.2 fun y => by rw [h.1] at y; cases y⟩
theorem TAt.ext {a xs} (e : Ext H O H' O') (h : TAt K H O a xs) : TAt K H' O' a xs := h.elim (fun h => .inl (e.rd h)) .inr
mutual
theorem Rep.ext (e : Ext H O H' O') : ∀ {d : PyData} {v : V}, Rep K H O v d → Rep K H' O' v d
  | .none, _, h => by cases h; exact .non
  | .bool b, _, h => by cases h; exact .bl b
  | .int i, _, h => by cases h; exact .int i
  | .str x, _, h => by cases h; exact .str x
  | .list ds, _, h => by
    cases h with
    | lst a b => exact .lst (a.ext e) (RepAll.ext e b)
  | .tuple ds, _, h => by
    cases h with
    | tup a b => exact .tup (a.ext e) (RepAll.ext e b)
  | .dict _, _, h => by cases h
theorem RepAll.ext (e : Ext H O H' O') : ∀ {ds : List PyData} {vs : List V}, RepAll K H O vs ds → RepAll K H' O' vs ds
  | [], _, h => by cases h; exact .nil
  | d :: ds, _, h => by
    cases h with
    | cons a b => exact .cons (Rep.ext e a) (RepAll.ext e b)
end
theorem Reps.ext {vs ds} (e : Ext H O H' O') (h : Reps K H O vs ds) : Reps K H' O' vs ds := Paired.mono (fun _ _ r => r.ext e) h
/-- a borrowed value: its own list may be one that may still change -/
def RepB (K : PySem.W.Frag) (H : Hp) (O : Addr → Prop) (v : V) (d : PyData) : Prop :=
  Rep K H O v d ∨ ∃ a xs ds, v = .ref a ∧ d = .list ds ∧ SqL K H a xs ∧ Reps K H O xs ds
theorem Rep.b {v d} (h : Rep K H O v d) : RepB K H O v d := .inl h
theorem RepB.same {v d} (s : Same H H') (h : RepB K H O v d) : RepB K H' O v d := by
  rcases h with h | ⟨a, xs, ds, e1, e2, h, r⟩
  · exact .inl (h.ext (Ext.same s))
  · exact .inr ⟨a, xs, ds, e1, e2, s.seq h, r.ext (Ext.same s)⟩
theorem RepB.dp {v d} (h : RepB K H O v d) : Dp K H v d := by
  rcases h with h | ⟨a, xs, ds, rfl, rfl, h, r⟩
  · exact h.dp
  · exact .lst h (RepAll.dp (RepAll.iff.mpr r))
theorem RepB.lst {v ds} (h : RepB K H O v (.list ds)) : ∃ a xs, v = .ref a ∧ SqL K H a xs ∧ Reps K H O xs ds := by
  rcases h with h | ⟨a, xs, ds', rfl, e, h, r⟩
  · cases h with
    | lst a b => exact ⟨_, _, rfl, a.sql, RepAll.iff.mp b⟩
  · cases e; exact ⟨a, xs, rfl, h, r⟩
theorem RepB.tup {v ds} (h : RepB K H O v (.tuple ds)) : ∃ a xs, v = .ref a ∧ SqT K H a xs ∧ Reps K H O xs ds := by
  rcases h with h | ⟨a, xs, ds', rfl, e, h, r⟩
  · cases h with
    | tup a b => exact ⟨_, _, rfl, a.sqt, RepAll.iff.mp b⟩
  · cases e
theorem RepB.int {v i} (h : RepB K H O v (.int i)) : v = .int i := by
  rcases h with h | ⟨a, xs, ds', rfl, e, h, r⟩
  · cases h; rfl
  · cases e
theorem RepB.bl {v i} (h : RepB K H O v (.bool i)) : v = .bl i := by
  rcases h with h | ⟨a, xs, ds', rfl, e, h, r⟩
  · cases h; rfl
  · cases e
theorem RepB.str {v i} (h : RepB K H O v (.str i)) : v = .str i := by
  rcases h with h | ⟨a, xs, ds', rfl, e, h, r⟩
  · cases h; rfl
  · cases e
theorem RepB.non {v} (h : RepB K H O v .none) : v = .non := by
  rcases h with h | ⟨a, xs, ds', rfl, e, h, r⟩
  · cases h; rfl
  · cases e
theorem RepB.not_dict {v kvs} (h : RepB K H O v (.dict kvs)) : False := by
  rcases h with h | ⟨a, xs, ds', rfl, e, h, r⟩
  · cases h
  · cases e
end

/-! ### lists that go along -/
section
variable {α β γ : Type} {F : α → β → Prop}
theorem pr_append : ∀ {xs xs' : List α} {ys ys' : List β}, Paired F xs ys → Paired F xs' ys' → Paired F (xs ++ xs') (ys ++ ys')
  | _, _, _, _, .nil, h => h
  | _, _, _, _, .cons a b, h => .cons a (pr_append b h)
theorem pr_take : ∀ {xs : List α} {ys : List β} (n : Nat), Paired F xs ys → Paired F (xs.take n) (ys.take n)
  | _, _, 0, _ => .nil
  | _, _, _ + 1, .nil => .nil
  | _, _, n + 1, .cons a b => .cons a (pr_take n b)
theorem pr_drop : ∀ {xs : List α} {ys : List β} (n : Nat), Paired F xs ys → Paired F (xs.drop n) (ys.drop n)
  | _, _, 0, h => h
  | _, _, _ + 1, .nil => .nil
  | _, _, n + 1, .cons _ b => pr_drop n b
theorem pr_rev : ∀ {xs : List α} {ys : List β}, Paired F xs ys → Paired F xs.reverse ys.reverse
  | _, _, .nil => .nil
  | _, _, .cons a b => by
    rw [List.reverse_cons, List.reverse_cons]
    exact pr_append (pr_rev b) (.cons a .nil)
theorem pr_get : ∀ {xs : List α} {ys : List β} {i : Nat} {y : β}, Paired F xs ys → ys[i]? = some y → ∃ x, xs[i]? = some x ∧ F x y
  | _, _, _, _, .nil, h => by simp at h
  | _, _, 0, _, .cons a b, h => by
    simp only [List.getElem?_cons_zero, Option.some.injEq] at h
    subst h
    exact ⟨_, rfl, a⟩
  | _, _, i + 1, _, .cons a b, h => by
    simp only [List.getElem?_cons_succ] at h
    obtain ⟨x, e, f⟩ := pr_get b h
    exact ⟨x, by simpa using e, f⟩
theorem pr_getL : ∀ {xs : List α} {ys : List β} {i : Nat} {x : α}, Paired F xs ys → xs[i]? = some x → ∃ y, ys[i]? = some y ∧ F x y
  | _, _, _, _, .nil, h => by simp at h
  | _, _, 0, _, .cons a b, h => by
    simp only [List.getElem?_cons_zero, Option.some.injEq] at h
    subst h
    exact ⟨_, rfl, a⟩
  | _, _, i + 1, _, .cons a b, h => by
    simp only [List.getElem?_cons_succ] at h
    obtain ⟨x, e, f⟩ := pr_getL b h
    exact ⟨x, by simpa using e, f⟩
theorem pr_set : ∀ {xs : List α} {ys : List β} {x : α} {y : β} (i : Nat), Paired F xs ys → F x y → Paired F (xs.set i x) (ys.set i y)
  | _, _, _, _, _, .nil, _ => .nil
  | _, _, _, _, 0, .cons a b, h => .cons h b
  | _, _, _, _, i + 1, .cons a b, h => .cons a (pr_set i b h)
theorem pr_one {x : α} {y : β} (h : F x y) : Paired F [x] [y] := .cons h .nil
theorem pr_rep {xs : List α} {ys : List β} (h : Paired F xs ys) : ∀ n, Paired F (List.replicate n xs).flatten (List.replicate n ys).flatten
  | 0 => .nil
  | n + 1 => by
    rw [List.replicate_succ, List.replicate_succ, List.flatten_cons, List.flatten_cons]
    exact pr_append h (pr_rep h n)
theorem pr_nil_iff {xs : List α} {ys : List β} (h : Paired F xs ys) : xs = [] ↔ ys = [] := by
  cases h with
  | nil => exact ⟨fun _ => rfl, fun _ => rfl⟩
  | cons a b => exact ⟨(fun h => nomatch h), (fun h => nomatch h)⟩
end

/-! ### the frame -/
/-- what stood at the def's entry: the abstract heap, the callers' own objects -/
structure Gd where
  H0 : Hp
  O0 : Addr → Prop
  dom : ∀ a, O0 a → ∃ o, H0 a = some o
/-- the slots hold what the environment says -/
structure Good (K : PySem.W.Frag) (G : Gd) (O : Addr → Prop) (ρ : EnvD) (σ : St) (H : Hp) : Prop where
  len : ρ.length = σ.length
  same : Same G.H0 H
  sub : ∀ a, G.O0 a → O a
  dom : ∀ a, O a → ∃ o, H a = some o
  dat : ∀ (i : Nat) (d : PyData), ρ[i]? = some (.dat d) → ∃ v, σ[i]? = some (some v) ∧ Rep K H O v d
  ol : ∀ (i : Nat) (ds : List PyData), ρ[i]? = some (.ol ds) → ∃ a vs, σ[i]? = some (some (.ref a)) ∧ H a = some (.lst vs) ∧ Reps K H O vs ds ∧ O a ∧ G.H0 a = none
  fz : ∀ (i : Nat) (ds : List PyData), ρ[i]? = some (.fz ds) → ∃ a vs, σ[i]? = some (some (.ref a)) ∧ SqL K G.H0 a vs ∧ Reps K H O vs ds
  od : ∀ (i : Nat) (kvs : List (PyData × PyData)), ρ[i]? = some (.od kvs) → False
  inj : ∀ (i j : Nat) (a : Addr) (ds es : List PyData), ρ[i]? = some (.ol ds) → ρ[j]? = some (.ol es) → σ[i]? = some (some (.ref a)) → σ[j]? = some (some (.ref a)) → i = j
section
variable {K : PySem.W.Frag} {G : Gd} {O O' : Addr → Prop} {ρ : EnvD} {σ : St} {H H' : Hp}
theorem Good.to (g : Good K G O ρ σ H) (s : Same H H') : Good K G O ρ σ H' where
  len := g.len
  same := g.same.trans s
  sub := g.sub
  dom := fun a h => by
    obtain ⟨o, e⟩ := g.dom a h
    exact ⟨o, s a o e⟩
  dat := fun i d h => by
    obtain ⟨v, e, r⟩ := g.dat i d h
    exact ⟨v, e, r.ext (Ext.same s)⟩
  ol := fun i ds h => by
    obtain ⟨a, vs, e, h1, r, o, f⟩ := g.ol i ds h
    exact ⟨a, vs, e, s _ _ h1, r.ext (Ext.same s), o, f⟩
  fz := fun i ds h => by
    obtain ⟨a, vs, e, h1, r⟩ := g.fz i ds h
    exact ⟨a, vs, e, h1, r.ext (Ext.same s)⟩
  od := g.od
  inj := g.inj
end
/-- for an expression: nothing that stands is changed; Hb: what stood, all lists of the slots within -/
structure GoodE (K : PySem.W.Frag) (Hb : Hp) (O : Addr → Prop) (ρ : EnvD) (σ : St) (H : Hp) : Prop where
  len : ρ.length = σ.length
  same : Same Hb H
  dom : ∀ a, O a → ∃ o, H a = some o
  dat : ∀ (i : Nat) (d : PyData), ρ[i]? = some (.dat d) → ∃ v, σ[i]? = some (some v) ∧ Rep K H O v d
  bor : ∀ (i : Nat) (ds : List PyData), (ρ[i]? = some (.ol ds) ∨ ρ[i]? = some (.fz ds)) → ∃ a vs, σ[i]? = some (some (.ref a)) ∧ SqL K Hb a vs ∧ Reps K H O vs ds
section
variable {K : PySem.W.Frag} {G : Gd} {Hb : Hp} {O O' : Addr → Prop} {ρ : EnvD} {σ : St} {H H' : Hp}
theorem GoodE.to (g : GoodE K Hb O ρ σ H) (s : Same H H') : GoodE K Hb O ρ σ H' where
  len := g.len
  same := g.same.trans s
  dom := fun a h => by
    obtain ⟨o, e⟩ := g.dom a h
    exact ⟨o, s a o e⟩
  dat := fun i d h => by
    obtain ⟨v, e, r⟩ := g.dat i d h
    exact ⟨v, e, r.ext (Ext.same s)⟩
  bor := fun i ds h => by
    obtain ⟨a, vs, e, h1, r⟩ := g.bor i ds h
    exact ⟨a, vs, e, h1, r.ext (Ext.same s)⟩
theorem Good.e (g : Good K G O ρ σ H) : GoodE K H O ρ σ H where
  len := g.len
  same := Same.refl H
  dom := g.dom
  dat := g.dat
  bor := fun i ds h => by
    rcases h with h | h
    · obtain ⟨a, vs, e, h1, r, _⟩ := g.ol i ds h
      exact ⟨a, vs, e, SqL.of h1, r⟩
    · obtain ⟨a, vs, e, h1, r⟩ := g.fz i ds h
      exact ⟨a, vs, e, g.same.seq h1, r⟩
end
/-- what is wished of an error at the slots σ -/
def XW (X : Cx) (W : WX) (O : Addr → Prop) (σ : St) (H : Hp) : Err → Prop
  | .stuck => False
  | .exc n none => ∃ C, X.mg n = some (.ref C) ∧ ∀ H', Same H H' → W (.ref C) none σ H'
  | .exc n (some (f, p)) => ∃ C, X.mg n = some (.ref C) ∧ ∀ H' dd v, Same H H' → H' dd = some (.xd [((f : Str), v)]) → Rep X.K H' O v p → W (.ref C) (some dd) σ H'
def Post (X : Cx) (W : WX) (O : Addr → Prop) (σ : St) (H : Hp) {α : Type} (r : Rs α) (P : α → Prop) : Prop :=
  match r with
  | .ok a => P a
  | .error e => XW X W O σ H e
section
variable {X : Cx} {W : WX} {O : Addr → Prop} {σ : St} {H H' : Hp} {α β : Type}
theorem XW.to {e : Err} (s : Same H H') (h : XW X W O σ H e) : XW X W O σ H' e := by
  match e, h with
  | .exc n none, ⟨C, hm, h⟩ => exact ⟨C, hm, fun H2 s2 => h H2 (s.trans s2)⟩
  | .exc n (some (f, p)), ⟨C, hm, h⟩ => exact ⟨C, hm, fun H2 dd v s2 => h H2 dd v (s.trans s2)⟩
theorem Post.bind {r : Rs α} {k : α → Rs β} {P : β → Prop} (h : Post X W O σ H (r >>= k) P) : Post X W O σ H r (fun a => Post X W O σ H (k a) P) := by
  cases r with
  | ok a => exact h
  | error e => exact h
theorem Post.imp {r : Rs α} {P P' : α → Prop} (h : Post X W O σ H r P) (f : ∀ a, r = .ok a → P a → P' a) : Post X W O σ H r P' := by
  cases r with
  | ok a => exact f a rfl h
  | error e => exact h
theorem Post.to {r : Rs α} {P P' : α → Prop} (s : Same H H') (h : Post X W O σ H r P) (f : ∀ a, P a → P' a) : Post X W O σ H' r P' := by
  cases r with
  | ok a => exact f a h
  | error e => exact XW.to s h
end

/-! ### the readings -/
section
variable (X : Cx) (W : WX)
def RE (c : DE) : TE := fun σ H Q => ∃ Hb ρ O, GoodE X.K Hb O ρ σ H ∧ Post X W O σ H (c ρ) fun d => ∀ v H', Same H H' → Rep X.K H' O v d → Q v H'
def RB (c : DE) : TE := fun σ H Q => ∃ Hb ρ O, GoodE X.K Hb O ρ σ H ∧ Post X W O σ H (c ρ) fun d => ∀ v H', Same H H' → RepB X.K H' O v d → Q v H'
/-- a new list -/
def RL (c : DL) : TE := fun σ H Q => ∃ Hb ρ O, GoodE X.K Hb O ρ σ H ∧ Post X W O σ H (c ρ) fun ds => ∀ a vs H', Same H H' → H a = none → H' a = some (.lst vs) → Reps X.K H' (fun b => O b ∨ b = a) vs ds → Q (.ref a) H'
def RT (c : DT) : TT := fun σ H Q => ∃ Hb ρ O, GoodE X.K Hb O ρ σ H ∧ Post X W O σ H (c ρ) fun b => ∀ H', Same H H' → Q b H'
def RA (c : DL) : TA := fun σ H Q => ∃ Hb ρ O, GoodE X.K Hb O ρ σ H ∧ Post X W O σ H (c ρ) fun ds => ∀ vs H', Same H H' → Reps X.K H' O vs ds → Q vs H'
def RAB (c : DL) : TA := fun σ H Q => ∃ Hb ρ O, GoodE X.K Hb O ρ σ H ∧ Post X W O σ H (c ρ) fun ds => ∀ vs H', Same H H' → Paired (RepB X.K H' O) vs ds → Q vs H'
end
section
variable {X : Cx} {W : WX}
theorem pe_imp {e : Expr} {t t' : TE} (h : PE X e t) (i : ∀ σ H Q, t' σ H Q → t σ H Q) : PE X e t' := ⟨fun pins s σ H Q I q => h.run pins s σ H Q I (i σ H Q q)⟩
theorem pt_imp {e : Expr} {t t' : TT} (h : PT X e t) (i : ∀ σ H Q, t' σ H Q → t σ H Q) : PT X e t' := ⟨fun pins s σ H Q I q => h.run pins s σ H Q I (i σ H Q q)⟩
theorem pa_imp {e : List Expr} {t t' : TA} (h : PA X e t) (i : ∀ σ H Q, t' σ H Q → t σ H Q) : PA X e t' := ⟨fun pos pins s σ H Q I q => h.run pos pins s σ H Q I (i σ H Q q)⟩
theorem ps_imp {e : Stmt} {t t' : TS} (h : PS X e t) (i : ∀ D σ H, t' D σ H → t D σ H) : PS X e t' := ⟨fun pins s σ H D I q => h.run pins s σ H D I (i D σ H q)⟩
theorem pss_imp {e : List Stmt} {t t' : TS} (h : PSs X e t) (i : ∀ D σ H, t' D σ H → t D σ H) : PSs X e t' := ⟨fun pins s σ H D I q => h.run pins s σ H D I (i D σ H q)⟩
theorem re_b {e c} (h : PE X e (RE X W c)) : PE X e (RB X W c) := pe_imp h fun σ H Q ⟨Hb, ρ, O, g, p⟩ => ⟨Hb, ρ, O, g, p.imp fun d _ q v H' s r => q v H' s r.b⟩
theorem fresh_no {K : PySem.W.Frag} {Hb : Hp} {O : Addr → Prop} {ρ : EnvD} {σ : St} {H : Hp} {a : Addr} (g : GoodE K Hb O ρ σ H) (h : H a = none) : ¬ O a := fun z => by
  obtain ⟨o, e⟩ := g.dom a z
  rw [h] at e; cases e
/-- a new list as a value -/
def dLst (c : DL) : DE := fun ρ => (c ρ).map .list
theorem Post.map' {α β : Type} {O : Addr → Prop} {σ : St} {H : Hp} {r : Rs α} {f : α → β} {P : β → Prop} : Post X W O σ H (r.map f) P ↔ Post X W O σ H r (fun a => P (f a)) := by
  cases r <;> exact Iff.rfl
theorem rl_e {e c} (h : PE X e (RL X W c)) : PE X e (RE X W (dLst c)) := pe_imp h fun σ H Q ⟨Hb, ρ, O, g, p⟩ => ⟨Hb, ρ, O, g, (Post.map'.mp p).imp fun ds _ q a vs H' s n ha r => by
  refine q (.ref a) H' s (.lst ⟨ha, fresh_no g n⟩ (RepAll.iff.mpr (r.ext (Ext.less fun b z => .inl z))))⟩
end
end Den

set_option Elab.async false
set_option linter.all false
set_option maxRecDepth 100000
set_option maxHeartbeats 4000000
namespace Den
open PySem PySem.Spec PyProof.Rows L2

/-! ### rules by values, over data -/
abbrev OkO (O : Addr → Prop) (H : Hp) : Prop := ∀ a, O a → ∃ o, H a = some o
def Give (K : PySem.W.Frag) (H : Hp) (O : Addr → Prop) (r : Rs PyData) (Q : VK) : Prop := match r with
  | .ok d => ∀ v H', Same H H' → Rep K H' O v d → Q v H'
  | .error _ => False
def GiveL (K : PySem.W.Frag) (H : Hp) (O : Addr → Prop) (r : Rs (List PyData)) (Q : VK) : Prop := match r with
  | .ok ds => ∀ a vs H', Same H H' → H a = none → H' a = some (.lst vs) → Reps K H' (fun b => O b ∨ b = a) vs ds → Q (.ref a) H'
  | .error _ => False
section
variable {X : Cx}
theorem opr_imp {f : Value → Value → Sem Value} {r r' : R2} (h : OpR X f r) (i : ∀ x y H Q, r' x y H Q → r x y H Q) : OpR X f r' := fun pins s σ H x y v u Q I rx ry q => h pins s σ H x y v u Q I rx ry (i _ _ _ _ q)
theorem callr_imp {f : Value} {r r' : List V → Hp → VK → Prop} (h : CallR X f r) (i : ∀ vs H Q, r' vs H Q → r vs H Q) : CallR X f r' := fun pins s σ H xs us Q I rx q => h pins s σ H xs us Q I rx (i xs H Q q)
theorem ixr_imp {r r' : R2} (h : IxR X r) (i : ∀ x y H Q, r' x y H Q → r x y H Q) : IxR X r' := fun value slice pins s σ H x y v u Q I rx ry q hs => h value slice pins s σ H x y v u Q I rx ry (i _ _ _ _ q) hs
theorem slr_imp {r r' : V → Option Int → Option Int → Hp → VK → Prop} (h : SlR X r) (i : ∀ x l u H Q, r' x l u H Q → r x l u H Q) : SlR X r' := fun pins s σ H x v vl vu lo hi sl Q I rx hs pl pu q => h pins s σ H x v vl vu lo hi sl Q I rx hs pl pu (i _ _ _ _ _ q)
theorem mtr_imp {id : String} {r r' : V → List V → Hp → VK → Prop} (h : MtR X id r) (i : ∀ x vs H Q, r' x vs H Q → r x vs H Q) : MtR X id r' := fun pins s σ H x xs v us Q I rx rxs q => h pins s σ H x xs v us Q I rx rxs (i x xs H Q q)
/-- an operator on two data -/
def OpD (X : Cx) (f : Value → Value → Sem Value) (g : PyData → PyData → Rs PyData) : Prop :=
  OpR X f fun x y H Q => ∃ O d e, OkO O H ∧ Rep X.K H O x d ∧ Rep X.K H O y e ∧ Give X.K H O (g d e) Q
def OpB (X : Cx) (f : Value → Value → Sem Value) (g : PyData → PyData → Rs PyData) : Prop :=
  OpR X f fun x y H Q => ∃ O d e, OkO O H ∧ RepB X.K H O x d ∧ RepB X.K H O y e ∧ Give X.K H O (g d e) Q
def IxB (X : Cx) (g : PyData → PyData → Rs PyData) : Prop :=
  IxR X fun x y H Q => ∃ O d e, OkO O H ∧ RepB X.K H O x d ∧ RepB X.K H O y e ∧ Give X.K H O (g d e) Q
def CallB (X : Cx) (f : Value) (g : List PyData → Rs PyData) : Prop :=
  CallR X f fun vs H Q => ∃ O ds, OkO O H ∧ Paired (RepB X.K H O) vs ds ∧ Give X.K H O (g ds) Q
def CallL (X : Cx) (f : Value) (g : List PyData → Rs (List PyData)) : Prop :=
  CallR X f fun vs H Q => ∃ O ds, OkO O H ∧ Paired (RepB X.K H O) vs ds ∧ GiveL X.K H O (g ds) Q
theorem OpB.d {f g} (h : OpB X f g) : OpD X f g := opr_imp h fun x y H Q ⟨O, d, e, o, a, b, q⟩ => ⟨O, d, e, o, a.b, b.b, q⟩
end

/-! ### operators -/
/-- the length that nothing may pass -/
def okLen (n : Nat) : Bool := decide (n ≤ sizeLine)
def noneD : PyData → Bool
  | .none => true
  | _ => false
def addD : PyData → PyData → Rs PyData
  | .int i, .int j => .ok (.int (i + j))
  | .str x, .str y => if okLen (x.length + y.length) then .ok (.str (x ++ y)) else stuck
  | .tuple xs, .tuple ys => if okLen (xs.length + ys.length) then .ok (.tuple (xs ++ ys)) else stuck
  | .list xs, .list ys => if okLen (xs.length + ys.length) then .ok (.list (xs ++ ys)) else stuck
  | _, _ => stuck
def subD : PyData → PyData → Rs PyData
  | .int i, .int j => .ok (.int (i - j))
  | _, _ => stuck
def mulD : PyData → PyData → Rs PyData
  | .int i, .int j => if i.natAbs.log2 + j.natAbs.log2 < 1000000 then .ok (.int (i * j)) else stuck
  | .list xs, .int k => if -(2 ^ 63) ≤ k ∧ k < 2 ^ 63 ∧ xs.length * k.toNat ≤ sizeLine then .ok (.list (List.replicate k.toNat xs).flatten) else stuck
  | .tuple xs, .int k => if xs ≠ [] ∧ 2 ≤ k ∧ k ≤ 1000 ∧ xs.length ≤ 1000 then .ok (.tuple (List.replicate k.toNat xs).flatten) else stuck
  | _, _ => stuck
def fdivD : PyData → PyData → Rs PyData
  | .int i, .int j => if j ≠ 0 ∧ j.natAbs < 1073741824 then .ok (.int (i.fdiv j)) else stuck
  | _, _ => stuck
def modD : PyData → PyData → Rs PyData
  | .int i, .int j => if j ≠ 0 then .ok (.int (i.fmod j)) else stuck
  | _, _ => stuck
def powD : PyData → PyData → Rs PyData
  | .int i, .int j => if 0 ≤ j ∧ j ≤ 1000000 ∧ i.natAbs < 2 ^ 64 then .ok (.int (i ^ j.toNat)) else stuck
  | _, _ => stuck
def negD : PyData → Rs PyData
  | .int i => .ok (.int (-i))
  | _ => stuck
def eqD (d e : PyData) : Rs PyData := if SeqAt.shaped d && SeqAt.shaped e then .ok (.bool (PyData.eqv d e)) else stuck
def neD (d e : PyData) : Rs PyData := if SeqAt.shaped d && SeqAt.shaped e then .ok (.bool (!PyData.eqv d e)) else stuck
/-- a < b -/
def ltD : PyData → PyData → Rs PyData
  | .int i, .int j => .ok (.bool (decide (i < j)))
  | d, e => if !noneD d && (PySem.W.alike d e && (decide (d.depth ≤ 64) && decide (e.depth ≤ 64))) then .ok (.bool (PySem.W.dataLt d e)) else stuck
def leD : PyData → PyData → Rs PyData
  | .int i, .int j => .ok (.bool (decide (i ≤ j)))
  | _, _ => stuck
def gtD : PyData → PyData → Rs PyData
  | .int i, .int j => .ok (.bool (decide (j < i)))
  | _, _ => stuck
def geD : PyData → PyData → Rs PyData
  | .int i, .int j => .ok (.bool (decide (j ≤ i)))
  | _, _ => stuck
/-- x in y -/
def inD : PyData → PyData → Rs PyData
  | d, .list ds => if SeqAt.shaped d && SeqAt.shaped (.list ds) then .ok (.bool (ds.any fun z => PyData.eqv z d)) else stuck
  | d, .tuple ds => if SeqAt.shaped d && SeqAt.shaped (.tuple ds) then .ok (.bool (ds.any fun z => PyData.eqv z d)) else stuck
  | .str x, .str y => .ok (.bool (!(Builtin.Str.occurrences y x 0 y.length 1).isEmpty))
  | _, _ => stuck
def notInD (d e : PyData) : Rs PyData := do
  match ← inD d e with
  | .bool b => .ok (.bool (!b))
  | _ => stuck
def isD : PyData → PyData → Rs PyData
  | d, .none => .ok (.bool (noneD d))
  | _, _ => stuck
def isNotD : PyData → PyData → Rs PyData
  | d, .none => .ok (.bool (!noneD d))
  | _, _ => stuck

section
variable {X : Cx}
theorem give_int {K H O Q} {i : Int} (h : Give K H O (.ok (.int i)) Q) : Q (.int i) H := h _ H (Same.refl H) (.int i)
theorem give_bl {K H O Q} {i : Bool} (h : Give K H O (.ok (.bool i)) Q) : Q (.bl i) H := h _ H (Same.refl H) (.bl i)
theorem give_str {K H O Q} {i : Str} (h : Give K H O (.ok (.str i)) Q) : Q (.str i) H := h _ H (Same.refl H) (.str i)
theorem give_rep {K H O Q} {v d} (h : Give K H O (.ok d) Q) (r : Rep K H O v d) : Q v H := h _ H (Same.refl H) r
theorem same_upd {H : Hp} {p : Addr} {o : HO} (h : H p = none) : Same H (upd H p o) := fun b x e => by
  rw [upd_ne (ne_of_none e h)]
  exact e
theorem no_own {O : Addr → Prop} {H : Hp} {p : Addr} (ok : OkO O H) (h : H p = none) : ¬ O p := fun z => by
  obtain ⟨o, e⟩ := ok p z
  rw [h] at e; cases e
theorem give_tup {K H O Q} {xs : List V} {ds : List PyData} (h : Give K H O (.ok (.tuple ds)) Q) (ok : OkO O H) (r : Reps K H O xs ds) : ∀ p, H p = none → Q (.ref p) (upd H p (.tup xs)) := fun p hp =>
  h _ _ (same_upd hp) (.tup (.inl ⟨.inl upd_same, no_own ok hp⟩) (RepAll.iff.mpr (r.ext (Ext.same (same_upd hp)))))
theorem give_lst {K H O Q} {xs : List V} {ds : List PyData} (h : Give K H O (.ok (.list ds)) Q) (ok : OkO O H) (r : Reps K H O xs ds) : ∀ p, H p = none → Q (.ref p) (upd H p (.lst xs)) := fun p hp =>
  h _ _ (same_upd hp) (.lst ⟨upd_same, no_own ok hp⟩ (RepAll.iff.mpr (r.ext (Ext.same (same_upd hp)))))
theorem ext_new {H : Hp} {O : Addr → Prop} {p : Addr} {o : HO} (hp : H p = none) : Ext H O (upd H p o) (fun b => O b ∨ b = p) :=
  ⟨fun a u h _ => same_upd hp a u h, fun a h => h.elim .inl fun e => .inr (e ▸ hp), fun a u h => ⟨u, same_upd hp a u h⟩⟩
theorem giveL_lst {K H O Q} {xs : List V} {ds : List PyData} (h : GiveL K H O (.ok ds) Q) (r : Reps K H O xs ds) : ∀ p, H p = none → Q (.ref p) (upd H p (.lst xs)) := fun p hp =>
  h p xs _ (same_upd hp) hp upd_same (r.ext (ext_new hp))
theorem op_addD : OpD X (binaryOp .Add) addD := by
  refine opr_imp (op_add.or (op_add_str.or (op_catA.or op_cat))) fun x y H Q ⟨O, d, e, ok, rx, ry, q⟩ => ?_
  cases rx with
  | int i =>
    cases ry with
    | int j => exact .inl ⟨i, j, rfl, rfl, give_int q⟩
    | _ => exact q.elim
  | str a =>
    cases ry with
    | str b =>
      simp only [addD] at q
      split at q
      · rename_i hl
        exact .inr (.inl ⟨a, b, rfl, rfl, of_decide_eq_true hl, give_str q⟩)
      · exact q.elim
    | _ => exact q.elim
  | @tup a xs ds hx rx =>
    cases ry with
    | @tup b ys es hy ry =>
      simp only [addD] at q
      split at q
      · rename_i hl
        have hl := of_decide_eq_true hl
        have r1 := RepAll.iff.mp rx
        have r2 := RepAll.iff.mp ry
        refine .inr (.inr (.inl ⟨a, b, xs, ys, rfl, rfl, hx.sqt, hy.sqt, ?_, fun z => ?_, fun _ z => ?_, ?_⟩))
        · rw [r1.length, r2.length]; exact hl
        · have e1 := (pr_nil_iff r1).mp z
          subst e1
          exact q _ H (Same.refl H) (.tup hy ry)
        · have e1 := (pr_nil_iff r2).mp z
          subst e1
          rw [List.append_nil] at q
          exact q _ H (Same.refl H) (.tup hx rx)
        · exact fun _ _ => give_tup q ok (pr_append r1 r2)
      · exact q.elim
    | _ => exact q.elim
  | @lst a xs ds hx rx =>
    cases ry with
    | @lst b ys es hy ry =>
      simp only [addD] at q
      split at q
      · rename_i hl
        have hl := of_decide_eq_true hl
        have r1 := RepAll.iff.mp rx
        have r2 := RepAll.iff.mp ry
        refine .inr (.inr (.inr ⟨a, b, xs, ys, rfl, rfl, hx.1, hy.1, ?_, give_lst q ok (pr_append r1 r2)⟩))
        rw [r1.length, r2.length]; exact hl
      · exact q.elim
    | _ => exact q.elim
  | _ => exact q.elim
end
end Den

set_option Elab.async false
set_option linter.all false
set_option maxRecDepth 100000
set_option maxHeartbeats 4000000
namespace Den
open PySem PySem.Spec PyProof.Rows L2
section
variable {X : Cx}
theorem op_subD : OpD X (binaryOp .Sub) subD := by
  refine opr_imp op_sub fun x y H Q ⟨O, d, e, ok, rx, ry, q⟩ => ?_
  cases rx with
  | int i =>
    cases ry with
    | int j => exact ⟨i, j, rfl, rfl, give_int q⟩
    | _ => exact q.elim
  | _ => exact q.elim
theorem op_fdivD : OpD X (binaryOp .FloorDiv) fdivD := by
  refine opr_imp op_fdivN fun x y H Q ⟨O, d, e, ok, rx, ry, q⟩ => ?_
  cases rx with
  | int i =>
    cases ry with
    | int j =>
      simp only [fdivD] at q
      split at q
      · rename_i h
        exact ⟨i, j, rfl, rfl, h, give_int q⟩
      · exact q.elim
    | _ => exact q.elim
  | _ => exact q.elim
theorem op_modD : OpD X (binaryOp .Mod) modD := by
  refine opr_imp op_modN fun x y H Q ⟨O, d, e, ok, rx, ry, q⟩ => ?_
  cases rx with
  | int i =>
    cases ry with
    | int j =>
      simp only [modD] at q
      split at q
      · rename_i h
        exact ⟨i, j, rfl, rfl, h, give_int q⟩
      · exact q.elim
    | _ => exact q.elim
  | _ => exact q.elim
theorem op_powD : OpD X (binaryOp .Pow) powD := by
  refine opr_imp op_pow fun x y H Q ⟨O, d, e, ok, rx, ry, q⟩ => ?_
  cases rx with
  | int i =>
    cases ry with
    | int j =>
      simp only [powD] at q
      split at q
      · rename_i h
        exact ⟨i, j, rfl, rfl, h, give_int q⟩
      · exact q.elim
    | _ => exact q.elim
  | _ => exact q.elim
/-- a value's operator -/
def UnD (X : Cx) (f : Value → Sem Value) (g : PyData → Rs PyData) : Prop := UnR X f fun x H Q => ∃ O d, OkO O H ∧ Rep X.K H O x d ∧ Give X.K H O (g d) Q
theorem unr_imp {f : Value → Sem Value} {r r' : V → Hp → VK → Prop} (h : UnR X f r) (i : ∀ x H Q, r' x H Q → r x H Q) : UnR X f r' := fun pins s σ H x v Q I rx q => h pins s σ H x v Q I rx (i _ _ _ q)
theorem un_negD : UnD X (unaryOp .USub) negD := by
  refine unr_imp un_neg fun x H Q ⟨O, d, ok, rx, q⟩ => ?_
  cases rx with
  | int i => exact ⟨i, rfl, give_int q⟩
  | _ => exact q.elim
theorem op_eqB (hu : X.A.units + 64 < cLine) : OpB X (compareOp .Eq) eqD := by
  refine opr_imp (op_eqD hu) fun x y H Q ⟨O, d, e, ok, rx, ry, q⟩ => ?_
  unfold eqD at q
  split at q
  · rename_i h
    rw [Bool.and_eq_true] at h
    exact ⟨d, e, rx.dp, ry.dp, h.1, h.2, give_bl q⟩
  · exact q.elim
theorem op_neB (hu : X.A.units + 64 < cLine) : OpB X (compareOp .NotEq) neD := by
  refine opr_imp (op_neD hu) fun x y H Q ⟨O, d, e, ok, rx, ry, q⟩ => ?_
  unfold neD at q
  split at q
  · rename_i h
    rw [Bool.and_eq_true] at h
    exact ⟨d, e, rx.dp, ry.dp, h.1, h.2, give_bl q⟩
  · exact q.elim
theorem op_ltA (hu : X.A.units + 64 < cLine) : OpR X (compareOp .Lt) (fun x y H Q => ∃ d e, Dp X.K H x d ∧ Dp X.K H y e ∧ d ≠ .none ∧ PySem.W.alike d e = true ∧ d.depth ≤ 64 ∧ Q (.bl (PySem.W.dataLt d e)) H) := by
  intro pins s σ H x y v u Q I rx ry ⟨d, e, hd, he, hn, ha, hdp, q⟩
  obtain ⟨as, r1⟩ := Dp.reads I d x v hd rx
  obtain ⟨bs, r2⟩ := Dp.reads I e y u he ry
  exact PySem.W.rcLt_alike d e X.A s v u as bs r1 r2 ha hn (by omega) X.prog X.w X.xe _ ⟨.bl _, H, I, rfl, q⟩
theorem op_ltB (hu : X.A.units + 64 < cLine) : OpB X (compareOp .Lt) ltD := by
  refine opr_imp (op_lt.or (op_ltA hu)) fun x y H Q ⟨O, d, e, ok, rx, ry, q⟩ => ?_
  have gen : ∀ {d e : PyData}, RepB X.K H O x d → RepB X.K H O y e → Give X.K H O (if !noneD d && (PySem.W.alike d e && (decide (d.depth ≤ 64) && decide (e.depth ≤ 64))) then .ok (.bool (PySem.W.dataLt d e)) else stuck) Q →
      ∃ d e, Dp X.K H x d ∧ Dp X.K H y e ∧ d ≠ .none ∧ PySem.W.alike d e = true ∧ d.depth ≤ 64 ∧ Q (.bl (PySem.W.dataLt d e)) H := by
    intro d e rx ry q
    split at q
    · rename_i h
      simp only [Bool.and_eq_true, decide_eq_true_eq] at h
      refine ⟨d, e, rx.dp, ry.dp, ?_, h.2.1, h.2.2.1, give_bl q⟩
      rintro rfl
      exact absurd h.1 (by decide)
    · exact q.elim
  unfold ltD at q
  split at q
  · obtain rfl := rx.int
    obtain rfl := ry.int
    exact .inl ⟨_, _, rfl, rfl, give_bl q⟩
  · exact .inr (gen rx ry q)
theorem op_leB : OpB X (compareOp .LtE) leD := by
  refine opr_imp op_le fun x y H Q ⟨O, d, e, ok, rx, ry, q⟩ => ?_
  unfold leD at q
  split at q
  · obtain rfl := rx.int
    obtain rfl := ry.int
    exact ⟨_, _, rfl, rfl, give_bl q⟩
  · exact q.elim
theorem op_gtB : OpB X (compareOp .Gt) gtD := by
  refine opr_imp op_gt fun x y H Q ⟨O, d, e, ok, rx, ry, q⟩ => ?_
  unfold gtD at q
  split at q
  · obtain rfl := rx.int
    obtain rfl := ry.int
    exact ⟨_, _, rfl, rfl, give_bl q⟩
  · exact q.elim
theorem op_geB : OpB X (compareOp .GtE) geD := by
  refine opr_imp op_ge fun x y H Q ⟨O, d, e, ok, rx, ry, q⟩ => ?_
  unfold geD at q
  split at q
  · obtain rfl := rx.int
    obtain rfl := ry.int
    exact ⟨_, _, rfl, rfl, give_bl q⟩
  · exact q.elim
theorem op_inTup (hu : X.A.units + 65 < cLine) : OpR X (compareOp .In) (fun x y H Q => ∃ d ds, Dp X.K H x d ∧ Dp X.K H y (.tuple ds) ∧ SeqAt.shaped d = true ∧ SeqAt.shaped (.tuple ds) = true ∧ Q (.bl (ds.any fun z => PyData.eqv z d)) H) := by
  intro pins s σ H x y v u Q I rx ry ⟨d, ds, hd, he, sd, se, q⟩
  obtain ⟨as, r1⟩ := Dp.reads I d x v hd rx
  obtain ⟨bs, r2⟩ := Dp.reads I (.tuple ds) y u he ry
  exact SeqAt.in_tuple_reads r2 r1 (SeqAt.canLay_of_shaped se) (SeqAt.canLay_of_shaped sd) (room_in_shaped sd hu) ⟨.bl _, H, I, rfl, q⟩
theorem op_notInTup (hu : X.A.units + 65 < cLine) : OpR X (compareOp .NotIn) (fun x y H Q => ∃ d ds, Dp X.K H x d ∧ Dp X.K H y (.tuple ds) ∧ SeqAt.shaped d = true ∧ SeqAt.shaped (.tuple ds) = true ∧ Q (.bl (!ds.any fun z => PyData.eqv z d)) H) := by
  intro pins s σ H x y v u Q I rx ry ⟨d, ds, hd, he, sd, se, q⟩
  obtain ⟨as, r1⟩ := Dp.reads I d x v hd rx
  obtain ⟨bs, r2⟩ := Dp.reads I (.tuple ds) y u he ry
  exact SeqAt.notIn_tuple_reads r2 r1 (SeqAt.canLay_of_shaped se) (SeqAt.canLay_of_shaped sd) (room_in_shaped sd hu) ⟨.bl _, H, I, rfl, q⟩
theorem op_inB (hu : X.A.units + 65 < cLine) : OpB X (compareOp .In) inD := by
  refine opr_imp (op_in_str.or ((op_inD hu).or (op_inTup hu))) fun x y H Q ⟨O, d, e, ok, rx, ry, q⟩ => ?_
  unfold inD at q
  split at q
  · split at q
    · rename_i h
      rw [Bool.and_eq_true] at h
      exact .inr (.inl ⟨_, _, rx.dp, ry.dp, h.1, h.2, give_bl q⟩)
    · exact q.elim
  · split at q
    · rename_i h
      rw [Bool.and_eq_true] at h
      exact .inr (.inr ⟨_, _, rx.dp, ry.dp, h.1, h.2, give_bl q⟩)
    · exact q.elim
  · obtain rfl := rx.str
    obtain rfl := ry.str
    exact .inl ⟨_, _, rfl, rfl, give_bl q⟩
  · exact q.elim
theorem op_notInB (hu : X.A.units + 65 < cLine) : OpB X (compareOp .NotIn) notInD := by
  refine opr_imp (L2.op_notin_str.or ((op_notInD hu).or (op_notInTup hu))) fun x y H Q ⟨O, d, e, ok, rx, ry, q⟩ => ?_
  unfold notInD inD at q
  split at q
  · split at q
    · rename_i h
      rw [Bool.and_eq_true] at h
      exact .inr (.inl ⟨_, _, rx.dp, ry.dp, h.1, h.2, give_bl q⟩)
    · exact q.elim
  · split at q
    · rename_i h
      rw [Bool.and_eq_true] at h
      exact .inr (.inr ⟨_, _, rx.dp, ry.dp, h.1, h.2, give_bl q⟩)
    · exact q.elim
  · obtain rfl := rx.str
    obtain rfl := ry.str
    exact .inl ⟨_, _, rfl, rfl, give_bl q⟩
  · exact q.elim
theorem RepB.non_iff {K H O v d} (h : RepB K H O v d) : decide (v = .non) = noneD d := by
  rcases h with h | ⟨a, xs, ds', rfl, rfl, h, r⟩
  · cases h <;> simp [noneD]
  · simp [noneD]
theorem op_isB : OpB X (compareOp .Is) isD := by
  refine opr_imp op_isN fun x y H Q ⟨O, d, e, ok, rx, ry, q⟩ => ?_
  unfold isD at q
  split at q
  · refine ⟨ry.non, ?_⟩
    rw [rx.non_iff]
    exact give_bl q
  · exact q.elim
theorem op_isNotB : OpB X (compareOp .IsNot) isNotD := by
  refine opr_imp op_notN fun x y H Q ⟨O, d, e, ok, rx, ry, q⟩ => ?_
  unfold isNotD at q
  split at q
  · refine ⟨ry.non, ?_⟩
    rw [rx.non_iff]
    exact give_bl q
  · exact q.elim
end

/-! ### built-ins by their arguments -/
def lenD : List PyData → Rs PyData
  | [.list xs] => .ok (.int xs.length)
  | [.tuple xs] => .ok (.int xs.length)
  | [.str x] => if okLen x.length then .ok (.int x.length) else stuck
  | _ => stuck
def absD : List PyData → Rs PyData
  | [.int i] => .ok (.int (if i < 0 then -i else i))
  | _ => stuck
def max2 (i j : Int) : Int := if j > i then j else i
def min2 (i j : Int) : Int := if j < i then j else i
def intD : List PyData → Rs PyData
  | [.int i] => .ok (.int i)
  | _ => stuck
def isinstD (n : String) : PyData → Bool
  | .none => false
  | .bool _ => n == "int" || n == "bool"
  | .int _ => n == "int"
  | .str _ => n == "str"
  | .list _ => n == "list"
  | .tuple _ => n == "tuple"
  | .dict _ => n == "dict"
def intsOf : List PyData → Option (List Int)
  | [] => some []
  | .int i :: r => (intsOf r).map (i :: ·)
  | _ :: _ => none
def boolsOf : List PyData → Option (List Bool)
  | [] => some []
  | .bool i :: r => (boolsOf r).map (i :: ·)
  | _ :: _ => none
def sumD : List PyData → Rs PyData
  | [.list xs] => match intsOf xs with
    | some ns => .ok (.int ns.sum)
    | none => stuck
  | _ => stuck
def allD : List PyData → Rs PyData
  | [.list xs] => match boolsOf xs with
    | some ns => .ok (.bool (ns.all id))
    | none => stuck
  | _ => stuck
def anyD : List PyData → Rs PyData
  | [.list xs] => match boolsOf xs with
    | some ns => .ok (.bool (ns.any id))
    | none => stuck
  | _ => stuck
def tupleD : List PyData → Rs PyData
  | [.list xs] => .ok (.tuple xs)
  | [.tuple xs] => .ok (.tuple xs)
  | _ => stuck
def listD : List PyData → Rs (List PyData)
  | [.list xs] => .ok xs
  | [.tuple xs] => .ok xs
  | _ => stuck
section
variable {X : Cx}
theorem reps1 {K H O} {vs : List V} {d : PyData} (h : Paired (RepB K H O) vs [d]) : ∃ v, vs = [v] ∧ RepB K H O v d := by
  cases h with
  | cons a b => cases b; exact ⟨_, rfl, a⟩
theorem reps2 {K H O} {vs : List V} {d e : PyData} (h : Paired (RepB K H O) vs [d, e]) : ∃ v w, vs = [v, w] ∧ RepB K H O v d ∧ RepB K H O w e := by
  cases h with
  | cons a b =>
    cases b with
    | cons b c => cases c; exact ⟨_, _, rfl, a, b⟩
theorem call_lenB : CallB X (.builtin "len") lenD := by
  refine callr_imp (call_len_seq.or call_len_str) fun vs H Q ⟨O, ds, ok, r, q⟩ => ?_
  unfold lenD at q
  split at q
  · obtain ⟨v, rfl, r1⟩ := reps1 r
    obtain ⟨a, xs, rfl, h, r⟩ := r1.lst
    refine .inl ⟨a, xs, rfl, .inl h, ?_⟩
    rw [r.length]; exact give_int q
  · obtain ⟨v, rfl, r1⟩ := reps1 r
    obtain ⟨a, xs, rfl, h, r⟩ := r1.tup
    refine .inl ⟨a, xs, rfl, .inr h, ?_⟩
    rw [r.length]; exact give_int q
  · split at q
    · rename_i hl
      obtain ⟨v, rfl, r1⟩ := reps1 r
      obtain rfl := r1.str
      exact .inr ⟨_, rfl, of_decide_eq_true hl, give_int q⟩
    · exact q.elim
  · exact q.elim
theorem call_absB : CallB X (.builtin "abs") absD := by
  refine callr_imp call_abs fun vs H Q ⟨O, ds, ok, r, q⟩ => ?_
  unfold absD at q
  split at q
  · obtain ⟨v, rfl, r1⟩ := reps1 r
    obtain rfl := r1.int
    exact ⟨_, rfl, give_int q⟩
  · exact q.elim
theorem call_intB : CallB X (.type "int") intD := by
  refine callr_imp call_int1 fun vs H Q ⟨O, ds, ok, r, q⟩ => ?_
  unfold intD at q
  split at q
  · obtain ⟨v, rfl, r1⟩ := reps1 r
    obtain rfl := r1.int
    exact .inl ⟨_, rfl, give_int q⟩
  · exact q.elim
theorem reps_ints {K H O} : ∀ {xs : List V} {ds : List PyData} {ns : List Int}, Reps K H O xs ds → intsOf ds = some ns → xs = ns.map V.int
  | _, [], ns, r, e => by
    cases r
    cases e
    rfl
  | _, d :: ds, ns, r, e => by
    cases r with
    | cons a b =>
      cases a with
      | int i =>
        simp only [intsOf, Option.map_eq_some_iff] at e
        obtain ⟨ms, e1, rfl⟩ := e
        rw [reps_ints b e1]
        rfl
      | _ => simp [intsOf] at e
theorem reps_bools {K H O} : ∀ {xs : List V} {ds : List PyData} {ns : List Bool}, Reps K H O xs ds → boolsOf ds = some ns → xs = ns.map V.bl
  | _, [], ns, r, e => by
    cases r
    cases e
    rfl
  | _, d :: ds, ns, r, e => by
    cases r with
    | cons a b =>
      cases a with
      | bl i =>
        simp only [boolsOf, Option.map_eq_some_iff] at e
        obtain ⟨ms, e1, rfl⟩ := e
        rw [reps_bools b e1]
        rfl
      | _ => simp [boolsOf] at e
theorem call_sumB (hc : X.calm = true) : CallB X (.builtin "sum") sumD := by
  refine callr_imp (cr_sum hc) fun vs H Q ⟨O, ds, ok, r, q⟩ => ?_
  unfold sumD at q
  split at q
  · split at q
    · rename_i ns e
      obtain ⟨v, rfl, r1⟩ := reps1 r
      obtain ⟨a, xs, rfl, h, r⟩ := r1.lst
      obtain rfl := reps_ints r e
      exact ⟨a, ns, rfl, h, give_int q⟩
    · exact q.elim
  · exact q.elim
theorem call_allB (hc : X.calm = true) : CallB X (.builtin "all") allD := by
  refine callr_imp (cr_all hc) fun vs H Q ⟨O, ds, ok, r, q⟩ => ?_
  unfold allD at q
  split at q
  · split at q
    · rename_i ns e
      obtain ⟨v, rfl, r1⟩ := reps1 r
      obtain ⟨a, xs, rfl, h, r⟩ := r1.lst
      obtain rfl := reps_bools r e
      exact ⟨a, ns, rfl, h, give_bl q⟩
    · exact q.elim
  · exact q.elim
theorem call_anyB (hc : X.calm = true) : CallB X (.builtin "any") anyD := by
  refine callr_imp (cr_any hc) fun vs H Q ⟨O, ds, ok, r, q⟩ => ?_
  unfold anyD at q
  split at q
  · split at q
    · rename_i ns e
      obtain ⟨v, rfl, r1⟩ := reps1 r
      obtain ⟨a, xs, rfl, h, r⟩ := r1.lst
      obtain rfl := reps_bools r e
      exact ⟨a, ns, rfl, h, give_bl q⟩
    · exact q.elim
  · exact q.elim
theorem RepB.tupR {K H O v ds} (h : RepB K H O v (.tuple ds)) : Rep K H O v (.tuple ds) := by
  rcases h with h | ⟨a, xs, ds', rfl, e, h, r⟩
  · exact h
  · cases e
theorem call_tupleB : CallB X (.type "tuple") tupleD := by
  refine callr_imp call_tuple_of fun vs H Q ⟨O, ds, ok, r, q⟩ => ?_
  unfold tupleD at q
  split at q
  · obtain ⟨v, rfl, r1⟩ := reps1 r
    obtain ⟨a, xs, rfl, h, r⟩ := r1.lst
    exact ⟨a, xs, rfl, .inl ⟨h, give_tup q ok r⟩⟩
  · obtain ⟨v, rfl, r1⟩ := reps1 r
    have r0 := r1.tupR
    obtain ⟨a, xs, rfl, h, r⟩ := r1.tup
    exact ⟨a, xs, rfl, .inr ⟨h, give_rep q r0⟩⟩
  · exact q.elim
theorem call_listL : CallL X (.type "list") listD := by
  refine callr_imp call_list_of fun vs H Q ⟨O, ds, ok, r, q⟩ => ?_
  unfold listD at q
  split at q
  · obtain ⟨v, rfl, r1⟩ := reps1 r
    obtain ⟨a, xs, rfl, h, r⟩ := r1.lst
    exact ⟨a, xs, rfl, .inl h, giveL_lst q r⟩
  · obtain ⟨v, rfl, r1⟩ := reps1 r
    obtain ⟨a, xs, rfl, h, r⟩ := r1.tup
    exact ⟨a, xs, rfl, .inr h, giveL_lst q r⟩
  · exact q.elim
end
end Den

set_option Elab.async false
set_option linter.all false
set_option maxRecDepth 100000
set_option maxHeartbeats 4000000
namespace Den
open PySem PySem.Spec PyProof.Rows L2

/-! ### expressions -/
def dLit (d : PyData) : DE := fun _ => .ok d
def dVar (i : Nat) : DE := fun ρ => match ρ[i]? with
  | some (.dat d) => .ok d
  | _ => stuck
def dVarB (i : Nat) : DE := fun ρ => match ρ[i]? with
  | some (.dat d) => .ok d
  | some (.ol l) => .ok (.list l)
  | some (.fz l) => .ok (.list l)
  | _ => stuck
def dOp2 (f : PyData → PyData → Rs PyData) (a b : DE) : DE := fun ρ => a ρ >>= fun x => b ρ >>= fun y => f x y
def dOp1 (f : PyData → Rs PyData) (a : DE) : DE := fun ρ => a ρ >>= f
def dCall (f : List PyData → Rs PyData) (as : DL) : DE := fun ρ => as ρ >>= f
def dCallL (f : List PyData → Rs (List PyData)) (as : DL) : DL := fun ρ => as ρ >>= f
def dNil : DL := fun _ => .ok []
def dCons (a : DE) (as : DL) : DL := fun ρ => a ρ >>= fun x => as ρ >>= fun xs => .ok (x :: xs)
def dTup (as : DL) : DE := fun ρ => as ρ >>= fun xs => if okLen xs.length then .ok (.tuple xs) else stuck
def dList (as : DL) : DL := fun ρ => as ρ >>= fun xs => if okLen xs.length then .ok xs else stuck
def boolD : PyData → Rs Bool
  | .bool b => .ok b
  | _ => stuck
def tVal (a : DE) : DT := fun ρ => a ρ >>= boolD
def tAndD (a b : DT) : DT := fun ρ => a ρ >>= fun x => if x then b ρ else .ok false
def tOrD (a b : DT) : DT := fun ρ => a ρ >>= fun x => if x then .ok true else b ρ
def tNotD (a : DT) : DT := fun ρ => a ρ >>= fun x => .ok (!x)
def dIf (t : DT) (a b : DE) : DE := fun ρ => t ρ >>= fun x => if x then a ρ else b ρ
def dAndV (a b : DE) : DE := fun ρ => a ρ >>= boolD >>= fun x => if x then b ρ else .ok (.bool false)
def dOrV (a b : DE) : DE := fun ρ => a ρ >>= boolD >>= fun x => if x then .ok (.bool true) else b ρ
def dNotV (a : DE) : DE := fun ρ => a ρ >>= boolD >>= fun x => .ok (.bool (!x))
def dChain (f g : PyData → PyData → Rs PyData) (a b c : DE) : DE := fun ρ => a ρ >>= fun x => b ρ >>= fun y => f x y >>= boolD >>= fun t => if t then c ρ >>= fun z => g y z else .ok (.bool false)
def dIsi (n : String) (a : DE) : DE := fun ρ => a ρ >>= fun x => .ok (.bool (isinstD n x))

section
variable {X : Cx} {W : WX} {a b c e : Expr} {es : List Expr} {pos : Pos} {ca cb cc : DE} {cs : DL} {ta tb : DT}
/-! reading steps -/
theorem RE.go {Hb ρ O σ H Q} (g : GoodE X.K Hb O ρ σ H) {c : DE} {k : PyData → Rs PyData} {P : PyData → Prop} (p : Post X W O σ H (c ρ >>= k) P)
    (q : ∀ d v H', GoodE X.K Hb O ρ σ H' → Same H H' → Rep X.K H' O v d → Post X W O σ H' (k d) P → Q v H') : RE X W c σ H Q :=
  ⟨Hb, ρ, O, g, p.bind.imp fun d _ p v H' s r => q d v H' (g.to s) s r (p.to s fun _ z => z)⟩
theorem RB.go {Hb ρ O σ H Q} (g : GoodE X.K Hb O ρ σ H) {c : DE} {α : Type} {k : PyData → Rs α} {P : α → Prop} (p : Post X W O σ H (c ρ >>= k) P)
    (q : ∀ d v H', GoodE X.K Hb O ρ σ H' → Same H H' → RepB X.K H' O v d → Post X W O σ H' (k d) P → Q v H') : RB X W c σ H Q :=
  ⟨Hb, ρ, O, g, p.bind.imp fun d _ p v H' s r => q d v H' (g.to s) s r (p.to s fun _ z => z)⟩
theorem RE.go' {Hb ρ O σ H Q} (g : GoodE X.K Hb O ρ σ H) {c : DE} {α : Type} {k : PyData → Rs α} {P : α → Prop} (p : Post X W O σ H (c ρ >>= k) P)
    (q : ∀ d v H', GoodE X.K Hb O ρ σ H' → Same H H' → Rep X.K H' O v d → Post X W O σ H' (k d) P → Q v H') : RE X W c σ H Q :=
  ⟨Hb, ρ, O, g, p.bind.imp fun d _ p v H' s r => q d v H' (g.to s) s r (p.to s fun _ z => z)⟩
theorem RT.go {Hb ρ O σ H Q} (g : GoodE X.K Hb O ρ σ H) {c : DT} {α : Type} {k : Bool → Rs α} {P : α → Prop} (p : Post X W O σ H (c ρ >>= k) P)
    (q : ∀ d H', GoodE X.K Hb O ρ σ H' → Same H H' → Post X W O σ H' (k d) P → Q d H') : RT X W c σ H Q :=
  ⟨Hb, ρ, O, g, p.bind.imp fun d _ p H' s => q d H' (g.to s) s (p.to s fun _ z => z)⟩
theorem RA.go {Hb ρ O σ H Q} (g : GoodE X.K Hb O ρ σ H) {c : DL} {α : Type} {k : List PyData → Rs α} {P : α → Prop} (p : Post X W O σ H (c ρ >>= k) P)
    (q : ∀ d v H', GoodE X.K Hb O ρ σ H' → Same H H' → Reps X.K H' O v d → Post X W O σ H' (k d) P → Q v H') : RA X W c σ H Q :=
  ⟨Hb, ρ, O, g, p.bind.imp fun d _ p v H' s r => q d v H' (g.to s) s r (p.to s fun _ z => z)⟩
theorem RAB.go {Hb ρ O σ H Q} (g : GoodE X.K Hb O ρ σ H) {c : DL} {α : Type} {k : List PyData → Rs α} {P : α → Prop} (p : Post X W O σ H (c ρ >>= k) P)
    (q : ∀ d v H', GoodE X.K Hb O ρ σ H' → Same H H' → Paired (RepB X.K H' O) v d → Post X W O σ H' (k d) P → Q v H') : RAB X W c σ H Q :=
  ⟨Hb, ρ, O, g, p.bind.imp fun d _ p v H' s r => q d v H' (g.to s) s r (p.to s fun _ z => z)⟩
/-- what a rule by values is given -/
theorem Post.give {O : Addr → Prop} {σ : St} {H H0 : Hp} {r : Rs PyData} {Q : VK} (hx : ∀ n p, r ≠ .error (.exc n p)) (s0 : Same H0 H) (p : Post X W O σ H r fun d => ∀ v H', Same H0 H' → Rep X.K H' O v d → Q v H') : Give X.K H O r Q := by
  cases r with
  | ok d => exact fun v H' s r => p v H' (s0.trans s) r
  | error e =>
    cases e with
    | stuck => exact p
    | exc n q => exact absurd rfl (hx n q)

/-- never an own error -/
def Quiet {α : Type} (r : Rs α) : Prop := ∀ n p, r ≠ .error (.exc n p)
theorem re_op {op : Operator} {f : PyData → PyData → Rs PyData} (ho : OpD X (binaryOp op) f) (hq : ∀ x y, Quiet (f x y)) (ha : PE X a (RE X W ca)) (hb : PE X b (RE X W cb)) : PE X (.BinOp a op b pos) (RE X W (dOp2 f ca cb)) :=
  pe_imp (pe_op ho ha hb) fun σ H Q ⟨Hb, ρ, O, g, p⟩ => RE.go g p fun d v H1 g1 s1 r1 p1 => RE.go g1 p1 fun e u H2 g2 s2 r2 p2 => ⟨O, d, e, g2.dom, r1.ext (Ext.same s2), r2, Post.give (hq d e) (s1.trans s2) p2⟩
theorem re_un {op : UnaryOp} {f : PyData → Rs PyData} (ho : UnD X (unaryOp op) f) (hq : ∀ x, Quiet (f x)) (ha : PE X a (RE X W ca)) : PE X (.UnaryOp op a pos) (RE X W (dOp1 f ca)) :=
  pe_imp (pe_un ho ha) fun σ H Q ⟨Hb, ρ, O, g, p⟩ => RE.go g p fun d v H1 g1 s1 r1 p1 => ⟨O, d, g1.dom, r1, Post.give (hq d) s1 p1⟩
theorem re_cmp {op : CmpOp} {f : PyData → PyData → Rs PyData} (ho : OpB X (compareOp op) f) (hq : ∀ x y, Quiet (f x y)) (ha : PE X a (RB X W ca)) (hb : PE X b (RB X W cb)) (hm : behindInMarks op b = false) : PE X (.Compare a [op] [b] pos) (RE X W (dOp2 f ca cb)) :=
  pe_imp (pe_cmpR ho ha hb hm) fun σ H Q ⟨Hb, ρ, O, g, p⟩ => RB.go g p fun d v H1 g1 s1 r1 p1 => RB.go g1 p1 fun e u H2 g2 s2 r2 p2 => ⟨O, d, e, g2.dom, r1.same s2, r2, Post.give (hq d e) (s1.trans s2) p2⟩
theorem Post.bool {O : Addr → Prop} {σ : St} {H H0 : Hp} {r : Rs PyData} {Q : Bool → Hp → Prop} (hx : Quiet r) (s0 : Same H0 H) (p : Post X W O σ H (r >>= boolD) fun d => ∀ H', Same H0 H' → Q d H') : Give X.K H O r (fun v H' => ∃ k, v = .bl k ∧ Q k H') := by
  cases r with
  | ok d =>
    cases d with
    | bool b =>
      intro v H' s r
      cases r
      exact ⟨b, rfl, p H' (s0.trans s)⟩
    | _ => exact False.elim p
  | error e =>
    cases e with
    | stuck => exact p
    | exc n q => exact absurd rfl (hx n q)
theorem rt_cmp {op : CmpOp} {f : PyData → PyData → Rs PyData} (ho : OpB X (compareOp op) f) (hq : ∀ x y, Quiet (f x y)) (ha : PE X a (RB X W ca)) (hb : PE X b (RB X W cb)) (hm : behindInMarks op b = false) : PT X (.Compare a [op] [b] pos) (RT X W (tVal (dOp2 f ca cb))) :=
  pt_imp (pt_cmpR ho ha hb hm) fun σ H Q ⟨Hb, ρ, O, g, p⟩ => by
    have p : Post X W O σ H (ca ρ >>= fun x => (cb ρ >>= fun y => f x y >>= boolD)) fun d => ∀ H', Same H H' → Q d H' := by
      have := p
      simp only [tVal, dOp2, bind_assoc] at this
      exact this
    exact RB.go g p fun d v H1 g1 s1 r1 p1 => RB.go g1 p1 fun e u H2 g2 s2 r2 p2 => ⟨O, d, e, g2.dom, r1.same s2, r2, Post.bool (hq d e) (s1.trans s2) p2⟩
theorem rt_val (ha : PE X a (RE X W ca)) (he : ∀ whole, isTrue a X.env whole = (do let v ← whole; standAt a.pos; holding [v] (truthy v)) := by intro _; rfl) : PT X a (RT X W (tVal ca)) :=
  pt_imp (pt_val ha he) fun σ H Q ⟨Hb, ρ, O, g, p⟩ => RE.go' g p fun d v H1 g1 s1 r1 p1 => by
    cases r1 with
    | bl b => exact ⟨b, rfl, p1 H1 s1⟩
    | _ => exact False.elim p1
theorem rw_and1 (h : PT X a (RT X W ta)) : PW X (.BoolOp .And [a] pos) (RT X W ta) := pw_and1 h
theorem rw_or1 (h : PT X a (RT X W ta)) : PW X (.BoolOp .Or [a] pos) (RT X W ta) := pw_or1 h
theorem pw_imp {e : Expr} {t t' : TT} (h : PW X e t) (i : ∀ σ H Q, t' σ H Q → t σ H Q) : PW X e t' := ⟨fun wh pins s σ H Q I q => h.run wh pins s σ H Q I (i σ H Q q)⟩
theorem rw_and {rest : List Expr} (ha : PT X a (RT X W ta)) (hb : PW X (.BoolOp .And (b :: rest) pos) (RT X W tb)) : PW X (.BoolOp .And (a :: b :: rest) pos) (RT X W (tAndD ta tb)) :=
  pw_imp (pw_and ha hb) fun σ H Q ⟨Hb, ρ, O, g, p⟩ => RT.go g p fun d H1 g1 s1 p1 => by
    cases d with
    | true => exact ⟨Hb, ρ, O, g1, p1.imp fun b _ q H' s => q H' (s1.trans s)⟩
    | false => exact p1 H1 s1
theorem rw_or {rest : List Expr} (ha : PT X a (RT X W ta)) (hb : PW X (.BoolOp .Or (b :: rest) pos) (RT X W tb)) : PW X (.BoolOp .Or (a :: b :: rest) pos) (RT X W (tOrD ta tb)) :=
  pw_imp (pw_or ha hb) fun σ H Q ⟨Hb, ρ, O, g, p⟩ => RT.go g p fun d H1 g1 s1 p1 => by
    cases d with
    | false => exact ⟨Hb, ρ, O, g1, p1.imp fun b _ q H' s => q H' (s1.trans s)⟩
    | true => exact p1 H1 s1
theorem rt_w {e : Expr} (h : PW X e (RT X W ta)) : PT X e (RT X W ta) := h.pt
theorem rt_not (ha : PT X a (RT X W ta)) : PT X (.UnaryOp .Not a pos) (RT X W (tNotD ta)) :=
  pt_imp (pt_not ha) fun σ H Q ⟨Hb, ρ, O, g, p⟩ => RT.go g p fun d H1 g1 s1 p1 => p1 H1 s1
theorem re_if (ht : PT X c (RT X W ta)) (ha : PE X a (RE X W ca)) (hb : PE X b (RE X W cb)) : PE X (.IfExp c a b pos) (RE X W (dIf ta ca cb)) :=
  pe_imp (pe_ifExp ht ha hb) fun σ H Q ⟨Hb, ρ, O, g, p⟩ => RT.go g p fun d H1 g1 s1 p1 => by
    cases d with
    | true => exact ⟨Hb, ρ, O, g1, p1.imp fun b _ q v H' s r => q v H' (s1.trans s) r⟩
    | false => exact ⟨Hb, ρ, O, g1, p1.imp fun b _ q v H' s r => q v H' (s1.trans s) r⟩
theorem re_one {op} (h : PE X a (RE X W ca)) : PE X (.BoolOp op [a] pos) (RE X W ca) := pe_one h
theorem re_and {rest : List Expr} (ha : PE X a (RE X W ca)) (hb : PE X (.BoolOp .And (b :: rest) pos) (RE X W cb)) : PE X (.BoolOp .And (a :: b :: rest) pos) (RE X W (dAndV ca cb)) :=
  pe_imp (pe_and ha hb) fun σ H Q ⟨Hb, ρ, O, g, p⟩ => by
    have p : Post X W O σ H (ca ρ >>= fun x => (boolD x >>= fun t => if t = true then cb ρ else .ok (.bool false))) fun d => ∀ v H', Same H H' → Rep X.K H' O v d → Q v H' := by
      have := p
      simp only [dAndV, bind_assoc] at this
      exact this
    exact RE.go' g p fun d v H1 g1 s1 r1 p1 => by
      cases r1 with
      | bl k =>
        refine ⟨k, rfl, ?_⟩
        cases k with
        | true => exact ⟨Hb, ρ, O, g1, Post.imp (show Post X W O σ H1 (cb ρ) _ from p1) fun b _ q v H' s r => q v H' (s1.trans s) r⟩
        | false => exact p1 _ H1 s1 (.bl _)
      | _ => exact False.elim p1
theorem re_or {rest : List Expr} (ha : PE X a (RE X W ca)) (hb : PE X (.BoolOp .Or (b :: rest) pos) (RE X W cb)) : PE X (.BoolOp .Or (a :: b :: rest) pos) (RE X W (dOrV ca cb)) :=
  pe_imp (pe_or ha hb) fun σ H Q ⟨Hb, ρ, O, g, p⟩ => by
    have p : Post X W O σ H (ca ρ >>= fun x => (boolD x >>= fun t => if t = true then .ok (.bool true) else cb ρ)) fun d => ∀ v H', Same H H' → Rep X.K H' O v d → Q v H' := by
      have := p
      simp only [dOrV, bind_assoc] at this
      exact this
    exact RE.go' g p fun d v H1 g1 s1 r1 p1 => by
      cases r1 with
      | bl k =>
        refine ⟨k, rfl, ?_⟩
        cases k with
        | false => exact ⟨Hb, ρ, O, g1, Post.imp (show Post X W O σ H1 (cb ρ) _ from p1) fun b _ q v H' s r => q v H' (s1.trans s) r⟩
        | true => exact p1 _ H1 s1 (.bl _)
      | _ => exact False.elim p1
theorem re_not (ha : PE X a (RE X W ca)) : PE X (.UnaryOp .Not a pos) (RE X W (dNotV ca)) :=
  pe_imp (L2.pe_not ha) fun σ H Q ⟨Hb, ρ, O, g, p⟩ => by
    have p : Post X W O σ H (ca ρ >>= fun x => (boolD x >>= fun t => .ok (.bool (!t)))) fun d => ∀ v H', Same H H' → Rep X.K H' O v d → Q v H' := by
      have := p
      simp only [dNotV, bind_assoc] at this
      exact this
    exact RE.go' g p fun d v H1 g1 s1 r1 p1 => by
      cases r1 with
      | bl k => exact ⟨k, rfl, p1 _ H1 s1 (.bl _)⟩
      | _ => exact False.elim p1
theorem chain_go {f f' : PyData → PyData → Rs PyData} (hq : ∀ x y, Quiet (f x y)) (hq' : ∀ x y, Quiet (f' x y)) {σ H Q} (h : RE X W (dChain f f' ca cb cc) σ H Q) :
    tChain (fun x y H Q => ∃ O d e, OkO O H ∧ RepB X.K H O x d ∧ RepB X.K H O y e ∧ Give X.K H O (f d e) Q) (fun x y H Q => ∃ O d e, OkO O H ∧ RepB X.K H O x d ∧ RepB X.K H O y e ∧ Give X.K H O (f' d e) Q) (RB X W ca) (RB X W cb) (RB X W cc) σ H Q := by
  obtain ⟨Hb, ρ, O, g, p⟩ := h
  have p : Post X W O σ H (ca ρ >>= fun x => (cb ρ >>= fun y => (f x y >>= boolD >>= fun t => if t = true then cc ρ >>= fun z => f' y z else .ok (.bool false)))) fun d => ∀ v H', Same H H' → Rep X.K H' O v d → Q v H' := p
  refine RB.go g p fun d v H1 g1 s1 r1 p1 => RB.go g1 p1 fun e u H2 g2 s2 r2 p2 => ⟨O, d, e, g2.dom, r1.same s2, r2, ?_⟩
  cases hfe : f d e with
  | error er =>
    rw [hfe] at p2
    cases er with
    | stuck => exact p2
    | exc n q => exact absurd hfe (hq d e n q)
  | ok z =>
    rw [hfe] at p2
    intro w H3 s3 r3
    cases r3 with
    | bl k =>
      refine ⟨k, rfl, ?_⟩
      have g3 := g2.to s3
      cases k with
      | true =>
        have p3 : Post X W O σ H3 (cc ρ >>= fun z => f' e z) fun d => ∀ v H', Same H H' → Rep X.K H' O v d → Q v H' := Post.to s3 (show Post X W O σ H2 (cc ρ >>= fun z => f' e z) _ from p2) fun _ z => z
        exact RB.go g3 p3 fun z w H4 g4 s4 r4 p4 => ⟨O, e, z, g4.dom, r2.same (s3.trans s4), r4, Post.give (hq' e z) (s1.trans (s2.trans (s3.trans s4))) p4⟩
      | false => exact p2 _ H3 (s1.trans (s2.trans s3)) (.bl _)
    | _ => exact False.elim p2
theorem re_chain {op op' : CmpOp} {f f' : PyData → PyData → Rs PyData} (ho : OpB X (compareOp op) f) (ho' : OpB X (compareOp op') f') (hq : ∀ x y, Quiet (f x y)) (hq' : ∀ x y, Quiet (f' x y))
    (ha : PE X a (RB X W ca)) (hb : PE X b (RB X W cb)) (hc : PE X c (RB X W cc)) (hm : lastMarks [op, op'] [b, c] = false := by with_unfolding_all rfl) : PE X (.Compare a [op, op'] [b, c] pos) (RE X W (dChain f f' ca cb cc)) :=
  pe_imp (pe_chain ho ho' ha hb hc hm) fun σ H Q h => chain_go hq hq' h
theorem rt_chain {op op' : CmpOp} {f f' : PyData → PyData → Rs PyData} (ho : OpB X (compareOp op) f) (ho' : OpB X (compareOp op') f') (hq : ∀ x y, Quiet (f x y)) (hq' : ∀ x y, Quiet (f' x y))
    (ha : PE X a (RB X W ca)) (hb : PE X b (RB X W cb)) (hc : PE X c (RB X W cc)) (hm : lastMarks [op, op'] [b, c] = false := by with_unfolding_all rfl) : PT X (.Compare a [op, op'] [b, c] pos) (RT X W (tVal (dChain f f' ca cb cc))) :=
  pt_imp (pt_chain ho ho' ha hb hc hm) fun σ H Q ⟨Hb, ρ, O, g, p⟩ => chain_go (Q := fun v H' => ∃ k, v = .bl k ∧ Q k H') hq hq' ⟨Hb, ρ, O, g, by
    have p : Post X W O σ H (dChain f f' ca cb cc ρ >>= boolD) fun d => ∀ H', Same H H' → Q d H' := p
    refine p.bind.imp fun d _ q v H' s r => ?_
    cases r with
    | bl b => exact ⟨b, rfl, q H' s⟩
    | _ => exact False.elim q⟩

/-! names and constants -/
theorem re_int {i j} : PE X (.Constant (.int i) j pos) (RE X W (dLit (.int i))) := pe_imp pe_int fun σ H Q ⟨Hb, ρ, O, g, p⟩ => p _ H (Same.refl H) (.int i)
theorem re_bl {i j} : PE X (.Constant (.bool i) j pos) (RE X W (dLit (.bool i))) := pe_imp pe_bl fun σ H Q ⟨Hb, ρ, O, g, p⟩ => p _ H (Same.refl H) (.bl i)
theorem re_non {j} : PE X (.Constant .none j pos) (RE X W (dLit .none)) := pe_imp pe_non fun σ H Q ⟨Hb, ρ, O, g, p⟩ => p _ H (Same.refl H) .non
theorem re_str {x j} : PE X (.Constant (.str x) j pos) (RE X W (dLit (.str x))) := pe_imp pe_str fun σ H Q ⟨Hb, ρ, O, g, p⟩ => p _ H (Same.refl H) (.str x)
theorem re_var (i : Nat) {x : Str} (hN : X.N[i]? = some x := by rfl) (hv : Vis X.env.scope x := by first | exact Or.inl rfl | exact Or.inr (Or.inl rfl) | exact Or.inr (Or.inr rfl)) (hd : (x == ("__debug__" : Str)) = false := by decide)
    (hcd : (x == ("__classdict__" : Str)) = false := by decide) : PE X (.Name x pos) (RE X W (dVar i)) :=
  pe_imp (pe_var hN hv hd hcd) fun σ H Q ⟨Hb, ρ, O, g, p⟩ => by
    unfold dVar at p
    split at p
    · rename_i d e
      obtain ⟨v, ev, r⟩ := g.dat i d e
      exact ⟨v, ev, p v H (Same.refl H) r⟩
    · exact p.elim
theorem rb_var (i : Nat) {x : Str} (hN : X.N[i]? = some x := by rfl) (hv : Vis X.env.scope x := by first | exact Or.inl rfl | exact Or.inr (Or.inl rfl) | exact Or.inr (Or.inr rfl)) (hd : (x == ("__debug__" : Str)) = false := by decide)
    (hcd : (x == ("__classdict__" : Str)) = false := by decide) : PE X (.Name x pos) (RB X W (dVarB i)) :=
  pe_imp (pe_var hN hv hd hcd) fun σ H Q ⟨Hb, ρ, O, g, p⟩ => by
    unfold dVarB at p
    split at p
    · rename_i d e
      obtain ⟨v, ev, r⟩ := g.dat i d e
      exact ⟨v, ev, p v H (Same.refl H) r.b⟩
    · rename_i d e
      obtain ⟨a, vs, ev, h, r⟩ := g.bor i d (.inl e)
      exact ⟨_, ev, p _ H (Same.refl H) (.inr ⟨a, vs, d, rfl, rfl, g.same.seq h, r⟩)⟩
    · rename_i d e
      obtain ⟨a, vs, ev, h, r⟩ := g.bor i d (.inr e)
      exact ⟨_, ev, p _ H (Same.refl H) (.inr ⟨a, vs, d, rfl, rfl, g.same.seq h, r⟩)⟩
    · exact p.elim
/-- a module's constant -/
def KRep (K : PySem.W.Frag) (v : V) (d : PyData) : Prop := ∀ H O, Rep K H O v d
theorem re_glob {x : Str} {v : V} {u : Value} {d : PyData} (hg : Gl X x) (hm : X.mg x = some u) (r : RelV v u) (k : KRep X.K v d) (hd : (x == ("__debug__" : Str)) = false := by decide) : PE X (.Name x pos) (RE X W (dLit d)) :=
  pe_imp (pe_glob hg hm r hd) fun σ H Q ⟨Hb, ρ, O, g, p⟩ => p v H (Same.refl H) (k H O)
theorem krep_int {K : PySem.W.Frag} (i : Int) : KRep K (.int i) (.int i) := fun _ _ => .int i
theorem krep_str {K : PySem.W.Frag} (i : Str) : KRep K (.str i) (.str i) := fun _ _ => .str i
/-! arguments -/
theorem ra_nil : PA X [] (RA X W dNil) := pa_imp pa_nil fun σ H Q ⟨Hb, ρ, O, g, p⟩ => p [] H (Same.refl H) .nil
theorem ra_cons (ha : PE X e (RE X W ca)) (hr : PA X es (RA X W cs)) (hs : starEach (e :: es) X.env = (false, eval e X.env) :: starEach es X.env := by rfl) : PA X (e :: es) (RA X W (dCons ca cs)) :=
  pa_imp (pa_cons ha hr hs) fun σ H Q ⟨Hb, ρ, O, g, p⟩ => RE.go' g p fun d v H1 g1 s1 r1 p1 => RA.go g1 p1 fun ds vs H2 g2 s2 r2 p2 => p2 _ H2 (s1.trans s2) (.cons (r1.ext (Ext.same s2)) r2)
theorem rab_nil : PA X [] (RAB X W dNil) := pa_imp pa_nil fun σ H Q ⟨Hb, ρ, O, g, p⟩ => p [] H (Same.refl H) .nil
theorem pr_same {K : PySem.W.Frag} {H H' : Hp} {O : Addr → Prop} {vs ds} (s : Same H H') (h : Paired (RepB K H O) vs ds) : Paired (RepB K H' O) vs ds := Paired.mono (fun _ _ r => r.same s) h
theorem rab_cons (ha : PE X e (RB X W ca)) (hr : PA X es (RAB X W cs)) (hs : starEach (e :: es) X.env = (false, eval e X.env) :: starEach es X.env := by rfl) : PA X (e :: es) (RAB X W (dCons ca cs)) :=
  pa_imp (pa_cons ha hr hs) fun σ H Q ⟨Hb, ρ, O, g, p⟩ => RB.go g p fun d v H1 g1 s1 r1 p1 => RAB.go g1 p1 fun ds vs H2 g2 s2 r2 p2 => p2 _ H2 (s1.trans s2) (.cons (r1.same s2) r2)
/-! displays -/
theorem re_tup {x1} (h : PA X es (RA X W cs)) : PE X (.Tuple es x1 pos) (RE X W (dTup cs)) :=
  pe_imp (pe_tup h) fun σ H Q ⟨Hb, ρ, O, g, p⟩ => RA.go g p fun ds vs H1 g1 s1 r1 p1 => by
    split at p1
    · rename_i hl
      refine ⟨by rw [r1.length]; exact of_decide_eq_true hl, fun a ha => ?_⟩
      refine p1 _ _ (s1.trans (same_upd ha)) (.tup (.inl ⟨.inl upd_same, no_own g1.dom ha⟩) (RepAll.iff.mpr (r1.ext (Ext.same (same_upd ha)))))
    · exact p1.elim
theorem rl_lst (h : PA X es (RA X W cs)) : PE X (.List es pos) (RL X W (dList cs)) :=
  pe_imp (pe_lst h) fun σ H Q ⟨Hb, ρ, O, g, p⟩ => RA.go g p fun ds vs H1 g1 s1 r1 p1 => by
    split at p1
    · rename_i hl
      refine ⟨by rw [r1.length]; exact of_decide_eq_true hl, fun a ha => ?_⟩
      exact p1 a vs _ (s1.trans (same_upd ha)) (s1.free ha) upd_same (r1.ext (ext_new ha))
    · exact p1.elim
/-! calls of built-ins by name -/
theorem Post.giveL {O : Addr → Prop} {σ : St} {H H0 : Hp} {r : Rs (List PyData)} {Q : VK} (hx : Quiet r) (s0 : Same H0 H) (p : Post X W O σ H r fun ds => ∀ a vs H', Same H0 H' → H0 a = none → H' a = some (.lst vs) → Reps X.K H' (fun b => O b ∨ b = a) vs ds → Q (.ref a) H') : GiveL X.K H O r Q := by
  cases r with
  | ok d => exact fun a vs H' s n h r => p a vs H' (s0.trans s) (s0.free n) h r
  | error e =>
    cases e with
    | stuck => exact p
    | exc n q => exact absurd rfl (hx n q)
theorem re_callB {x id : _} {p : Pos} {f : List PyData → Rs PyData} (hc : CallB X (.builtin id) f) (hq : ∀ xs, Quiet (f xs)) (hg : Gl X x) (hm : X.mg x = none) (hv : bootBuiltins x = some (.builtin id)) (ha : PA X (e :: es) (RAB X W cs)) (hn : x ≠ "__name__" := by decide) (hdb : (x == ("__debug__" : Str)) = false := by decide)
    (he : starEach (e :: es) X.env = (false, eval e X.env) :: starEach es X.env := by rfl) (hpl : (backTo pos (starEach es X.env)).any (·.1) = false := by rfl) : PE X (.Call (.Name x p) (e :: es) [] pos) (RE X W (dCall f cs)) :=
  pe_imp (pe_callB hc hg hm hv ha hn hdb he hpl) fun σ H Q ⟨Hb, ρ, O, g, p⟩ => RAB.go g p fun ds vs H1 g1 s1 r1 p1 => ⟨O, ds, g1.dom, r1, Post.give (hq ds) s1 p1⟩
theorem re_callTy {x T : _} {p : Pos} {f : List PyData → Rs PyData} (hc : CallB X (.type T) f) (hq : ∀ xs, Quiet (f xs)) (hg : Gl X x) (hm : X.mg x = none) (hv : bootBuiltins x = some (.type T)) (ha : PA X (e :: es) (RAB X W cs)) (hn : x ≠ "__name__" := by decide) (hdb : (x == ("__debug__" : Str)) = false := by decide)
    (he : starEach (e :: es) X.env = (false, eval e X.env) :: starEach es X.env := by rfl) (hpl : (backTo pos (starEach es X.env)).any (·.1) = false := by rfl) : PE X (.Call (.Name x p) (e :: es) [] pos) (RE X W (dCall f cs)) :=
  pe_imp (pe_callTy hc hg hm hv ha hn hdb he hpl) fun σ H Q ⟨Hb, ρ, O, g, p⟩ => RAB.go g p fun ds vs H1 g1 s1 r1 p1 => ⟨O, ds, g1.dom, r1, Post.give (hq ds) s1 p1⟩
theorem rl_callB {x id : _} {p : Pos} {f : List PyData → Rs (List PyData)} (hc : CallL X (.builtin id) f) (hq : ∀ xs, Quiet (f xs)) (hg : Gl X x) (hm : X.mg x = none) (hv : bootBuiltins x = some (.builtin id)) (ha : PA X (e :: es) (RAB X W cs)) (hn : x ≠ "__name__" := by decide) (hdb : (x == ("__debug__" : Str)) = false := by decide)
    (he : starEach (e :: es) X.env = (false, eval e X.env) :: starEach es X.env := by rfl) (hpl : (backTo pos (starEach es X.env)).any (·.1) = false := by rfl) : PE X (.Call (.Name x p) (e :: es) [] pos) (RL X W (dCallL f cs)) :=
  pe_imp (pe_callB hc hg hm hv ha hn hdb he hpl) fun σ H Q ⟨Hb, ρ, O, g, p⟩ => RAB.go g p fun ds vs H1 g1 s1 r1 p1 => ⟨O, ds, g1.dom, r1, Post.giveL (hq ds) s1 p1⟩
theorem rl_callTy {x T : _} {p : Pos} {f : List PyData → Rs (List PyData)} (hc : CallL X (.type T) f) (hq : ∀ xs, Quiet (f xs)) (hg : Gl X x) (hm : X.mg x = none) (hv : bootBuiltins x = some (.type T)) (ha : PA X (e :: es) (RAB X W cs)) (hn : x ≠ "__name__" := by decide) (hdb : (x == ("__debug__" : Str)) = false := by decide)
    (he : starEach (e :: es) X.env = (false, eval e X.env) :: starEach es X.env := by rfl) (hpl : (backTo pos (starEach es X.env)).any (·.1) = false := by rfl) : PE X (.Call (.Name x p) (e :: es) [] pos) (RL X W (dCallL f cs)) :=
  pe_imp (pe_callTy hc hg hm hv ha hn hdb he hpl) fun σ H Q ⟨Hb, ρ, O, g, p⟩ => RAB.go g p fun ds vs H1 g1 s1 r1 p1 => ⟨O, ds, g1.dom, r1, Post.giveL (hq ds) s1 p1⟩
end
end Den

set_option Elab.async false
set_option linter.all false
set_option maxRecDepth 100000
set_option maxHeartbeats 4000000
namespace Den
open PySem PySem.Spec PyProof.Rows L2

/-! ### targets -/
inductive Tg where
  | nm (i : Nat)
  | tp (ts : List Tg)
mutual
def Tg.g (K : PySem.W.Frag) : Tg → TG
  | .nm i => gName i
  | .tp ts => gTup K ts.length (Tg.gs K ts)
def Tg.gs (K : PySem.W.Frag) : List Tg → TGs
  | [] => gNil
  | t :: ts => gCons (t.g K) (Tg.gs K ts)
end
mutual
def Tg.d : Tg → EnvD → PyData → Rs EnvD
  | .nm i, ρ, d => .ok (ρ.set i (.dat d))
  | .tp ts, ρ, .tuple ds => Tg.dsx ts ρ ds
  | .tp _, _, _ => stuck
def Tg.dsx : List Tg → EnvD → List PyData → Rs EnvD
  | [], ρ, [] => .ok ρ
  | t :: ts, ρ, d :: ds => t.d ρ d >>= fun ρ' => Tg.dsx ts ρ' ds
  | _, _, _ => stuck
end
mutual
def Tg.within (vs : List Nat) : Tg → Bool
  | .nm i => vs.contains i
  | .tp ts => Tg.withins vs ts
def Tg.withins (vs : List Nat) : List Tg → Bool
  | [] => true
  | t :: ts => t.within vs && Tg.withins vs ts
end
section
variable {K : PySem.W.Frag} {G : Gd} {O O' : Addr → Prop} {ρ ρ' : EnvD} {σ : St} {H H' : Hp}
theorem set_some {α : Type} {l : List α} {i j : Nat} {a b : α} (h : (l.set i a)[j]? = some b) : (i = j ∧ b = a ∧ j < l.length) ∨ (i ≠ j ∧ l[j]? = some b) := by
  by_cases e : i = j
  · subst e
    by_cases hl : i < l.length
    · rw [List.getElem?_set_self hl] at h
      exact .inl ⟨rfl, (Option.some.inj h).symm, hl⟩
    · rw [List.getElem?_eq_none (by simpa using hl)] at h
      cases h
  · rw [List.getElem?_set_ne e] at h
    exact .inr ⟨e, h⟩
theorem set_at {α : Type} {l : List α} {i : Nat} {a : α} (hl : i < l.length) : (l.set i a)[i]? = some a := List.getElem?_set_self hl
theorem set_off {α : Type} {l : List α} {i j : Nat} {a : α} (h : i ≠ j) : (l.set i a)[j]? = l[j]? := List.getElem?_set_ne h
/-- a slot gets a value -/
theorem Good.set (g : Good K G O ρ σ H) (i : Nat) {v : V} {d : PyData} (r : Rep K H O v d) : Good K G O (ρ.set i (.dat d)) (σ.set i (some v)) H where
  len := by rw [List.length_set, List.length_set]; exact g.len
  same := g.same
  sub := g.sub
  dom := g.dom
  dat := fun j e h => by
    rcases set_some h with ⟨rfl, z, hl⟩ | ⟨n, h⟩
    · cases z
      exact ⟨v, set_at (by rw [← g.len]; exact hl), r⟩
    · obtain ⟨w, e1, r1⟩ := g.dat j e h
      exact ⟨w, by rw [set_off n]; exact e1, r1⟩
  ol := fun j e h => by
    rcases set_some h with ⟨rfl, z, hl⟩ | ⟨n, h⟩
    · cases z
    · obtain ⟨a, vs, e1, r1⟩ := g.ol j e h
      exact ⟨a, vs, by rw [set_off n]; exact e1, r1⟩
  fz := fun j e h => by
    rcases set_some h with ⟨rfl, z, hl⟩ | ⟨n, h⟩
    · cases z
    · obtain ⟨a, vs, e1, r1⟩ := g.fz j e h
      exact ⟨a, vs, by rw [set_off n]; exact e1, r1⟩
  od := fun j e h => by
    rcases set_some h with ⟨rfl, z, hl⟩ | ⟨n, h⟩
    · cases z
    · exact g.od j e h
  inj := fun j k a ds es h1 h2 s1 s2 => by
    rcases set_some h1 with ⟨_, z, _⟩ | ⟨n1, h1⟩
    · cases z
    · rcases set_some h2 with ⟨_, z, _⟩ | ⟨n2, h2⟩
      · cases z
      · rw [set_off n1] at s1
        rw [set_off n2] at s2
        exact g.inj j k a ds es h1 h2 s1 s2
/-- a slot is forgotten -/
theorem Good.unset (g : Good K G O ρ σ H) (i : Nat) (v : Option V) : Good K G O (ρ.set i .un) (σ.set i v) H where
  len := by rw [List.length_set, List.length_set]; exact g.len
  same := g.same
  sub := g.sub
  dom := g.dom
  dat := fun j e h => by
    rcases set_some h with ⟨rfl, z, hl⟩ | ⟨n, h⟩
    · cases z
    · obtain ⟨w, e1, r1⟩ := g.dat j e h
      exact ⟨w, by rw [set_off n]; exact e1, r1⟩
  ol := fun j e h => by
    rcases set_some h with ⟨rfl, z, hl⟩ | ⟨n, h⟩
    · cases z
    · obtain ⟨a, vs, e1, r1⟩ := g.ol j e h
      exact ⟨a, vs, by rw [set_off n]; exact e1, r1⟩
  fz := fun j e h => by
    rcases set_some h with ⟨rfl, z, hl⟩ | ⟨n, h⟩
    · cases z
    · obtain ⟨a, vs, e1, r1⟩ := g.fz j e h
      exact ⟨a, vs, by rw [set_off n]; exact e1, r1⟩
  od := fun j e h => by
    rcases set_some h with ⟨rfl, z, hl⟩ | ⟨n, h⟩
    · cases z
    · exact g.od j e h
  inj := fun j k a ds es h1 h2 s1 s2 => by
    rcases set_some h1 with ⟨_, z, _⟩ | ⟨n1, h1⟩
    · cases z
    · rcases set_some h2 with ⟨_, z, _⟩ | ⟨n2, h2⟩
      · cases z
      · rw [set_off n1] at s1
        rw [set_off n2] at s2
        exact g.inj j k a ds es h1 h2 s1 s2
def wipeD (ρ : EnvD) : List Nat → EnvD
  | [] => ρ
  | v :: vs => (wipeD ρ vs).set v .un
theorem Good.wipe (g : Good K G O ρ σ H) : ∀ vs, Good K G O (wipeD ρ vs) (wipe σ vs) H
  | [] => g
  | v :: vs => (g.wipe vs).unset v none
/-- all that stood stands, the objects of O' are of O or new -/
theorem Good.wider (g : Good K G O ρ σ H) (s : Same H H') (o1 : ∀ a, O a → O' a) (o2 : ∀ a, O' a → O a ∨ H a = none) (ok : OkO O' H') : Good K G O' ρ σ H' :=
  have e : Ext H O H' O' := ⟨fun a o h _ => s a o h, o2, fun a o h => ⟨o, s a o h⟩⟩
  { len := g.len
    same := g.same.trans s
    sub := fun a h => o1 a (g.sub a h)
    dom := ok
    dat := fun i d h => by
      obtain ⟨v, e1, r⟩ := g.dat i d h
      exact ⟨v, e1, r.ext e⟩
    ol := fun i d h => by
      obtain ⟨a, vs, e1, h1, r, o, f⟩ := g.ol i d h
      exact ⟨a, vs, e1, s _ _ h1, r.ext e, o1 a o, f⟩
    fz := fun i d h => by
      obtain ⟨a, vs, e1, h1, r⟩ := g.fz i d h
      exact ⟨a, vs, e1, h1, r.ext e⟩
    od := g.od
    inj := g.inj }
theorem wipe_set (σ : St) (i : Nat) (v : Option V) : ∀ vs : List Nat, i ∈ vs → wipe (σ.set i v) vs = wipe σ vs
  | w :: vs, h => by
    show (wipe (σ.set i v) vs).set w none = (wipe σ vs).set w none
    by_cases e : i ∈ vs
    · rw [wipe_set σ i v vs e]
    · have e1 : i = w := (List.mem_cons.mp h).resolve_right e
      subst e1
      have : ∀ (τ : St) (us : List Nat), i ∉ us → wipe (τ.set i v) us = (wipe τ us).set i v := by
        intro τ us
        induction us with
        | nil => intro _; rfl
        | cons u us ih =>
          intro hu
          rw [List.mem_cons, not_or] at hu
          show (wipe (τ.set i v) us).set u none = ((wipe τ us).set u none).set i v
          rw [ih hu.2, List.set_comm _ _ hu.1]
      rw [this σ vs e, List.set_set]
theorem GoodE.set {Hb : Hp} (g : GoodE K Hb O ρ σ H) (i : Nat) {v : V} {d : PyData} (r : Rep K H O v d) : GoodE K Hb O (ρ.set i (.dat d)) (σ.set i (some v)) H where
  len := by rw [List.length_set, List.length_set]; exact g.len
  same := g.same
  dom := g.dom
  dat := fun j e h => by
    rcases set_some h with ⟨rfl, z, hl⟩ | ⟨n, h⟩
    · cases z
      exact ⟨v, set_at (by rw [← g.len]; exact hl), r⟩
    · obtain ⟨w, e1, r1⟩ := g.dat j e h
      exact ⟨w, by rw [set_off n]; exact e1, r1⟩
  bor := fun j e h => by
    have h' : i ≠ j ∧ (ρ[j]? = some (.ol e) ∨ ρ[j]? = some (.fz e)) := by
      rcases h with h | h
      · rcases set_some h with ⟨rfl, z, hl⟩ | ⟨n, h⟩
        · cases z
        · exact ⟨n, .inl h⟩
      · rcases set_some h with ⟨rfl, z, hl⟩ | ⟨n, h⟩
        · cases z
        · exact ⟨n, .inr h⟩
    obtain ⟨a, vs, e1, r1⟩ := g.bor j e h'.2
    exact ⟨a, vs, by rw [set_off h'.1]; exact e1, r1⟩
theorem GoodE.unset {Hb : Hp} (g : GoodE K Hb O ρ σ H) (i : Nat) (v : Option V) : GoodE K Hb O (ρ.set i .un) (σ.set i v) H where
  len := by rw [List.length_set, List.length_set]; exact g.len
  same := g.same
  dom := g.dom
  dat := fun j e h => by
    rcases set_some h with ⟨rfl, z, hl⟩ | ⟨n, h⟩
    · cases z
    · obtain ⟨w, e1, r1⟩ := g.dat j e h
      exact ⟨w, by rw [set_off n]; exact e1, r1⟩
  bor := fun j e h => by
    have h' : i ≠ j ∧ (ρ[j]? = some (.ol e) ∨ ρ[j]? = some (.fz e)) := by
      rcases h with h | h
      · rcases set_some h with ⟨rfl, z, hl⟩ | ⟨n, h⟩
        · cases z
        · exact ⟨n, .inl h⟩
      · rcases set_some h with ⟨rfl, z, hl⟩ | ⟨n, h⟩
        · cases z
        · exact ⟨n, .inr h⟩
    obtain ⟨a, vs, e1, r1⟩ := g.bor j e h'.2
    exact ⟨a, vs, by rw [set_off h'.1]; exact e1, r1⟩
theorem GoodE.wipe {Hb : Hp} (g : GoodE K Hb O ρ σ H) : ∀ vs, GoodE K Hb O (wipeD ρ vs) (wipe σ vs) H
  | [] => g
  | v :: vs => (g.wipe vs).unset v none
/-- what stood at the expression's beginning stands, the objects of O' are of O or new -/
theorem GoodE.wider {Hb : Hp} (g : GoodE K Hb O ρ σ H) (s : Same Hb H') (e : Ext H O H' O') (ok : OkO O' H') : GoodE K Hb O' ρ σ H' where
  len := g.len
  same := s
  dom := ok
  dat := fun i d h => by
    obtain ⟨v, e1, r⟩ := g.dat i d h
    exact ⟨v, e1, r.ext e⟩
  bor := fun i d h => by
    obtain ⟨a, vs, e1, h1, r⟩ := g.bor i d h
    exact ⟨a, vs, e1, h1, r.ext e⟩
/-- a word on slots that stands when a slot gets a value -/
def SetOk (K : PySem.W.Frag) (O : Addr → Prop) (H : Hp) (C : EnvD → St → Prop) : Prop := ∀ ρ σ i v d, C ρ σ → Rep K H O v d → C (ρ.set i (.dat d)) (σ.set i (some v))
theorem Good.setOk : SetOk K O H (fun ρ σ => Good K G O ρ σ H) := fun _ _ i _ _ g r => g.set i r
theorem GoodE.setOk {Hb : Hp} : SetOk K O H (fun ρ σ => GoodE K Hb O ρ σ H) := fun _ _ i _ _ g r => g.set i r
section
variable {C : EnvD → St → Prop}
mutual
theorem Tg.go (ok : SetOk K O H C) : ∀ (t : Tg) {ρ ρ' : EnvD} {σ : St} {v : V} {d : PyData} {Q : St → Hp → Prop}, C ρ σ → Rep K H O v d → t.d ρ d = .ok ρ' →
    (∀ σ', C ρ' σ' → (∀ vs, t.within vs = true → L2.wipe σ' vs = L2.wipe σ vs) → Q σ' H) → t.g K v σ H Q
  | .nm i, ρ, ρ', σ, v, d, Q, g, r, e, q => by
    rw [Tg.d] at e
    cases e
    rw [Tg.g]
    exact q _ (ok _ _ i _ _ g r) fun vs h => wipe_set σ i _ vs (by rw [Tg.within] at h; simpa using h)
  | .tp ts, ρ, ρ', σ, v, d, Q, g, r, e, q => by
    cases r with
    | tup h r =>
      rw [Tg.d] at e
      rw [Tg.g]
      have r := RepAll.iff.mp r
      have hl : ∀ (ts : List Tg) (ρ : EnvD) (ds : List PyData), Tg.dsx ts ρ ds = .ok ρ' → ts.length = ds.length := by
        intro ts
        induction ts with
        | nil =>
          intro ρ ds e
          cases ds with
          | nil => rfl
          | cons _ _ => simp [Tg.dsx, stuck] at e
        | cons t ts ih =>
          intro ρ ds e
          cases ds with
          | nil => simp [Tg.dsx, stuck] at e
          | cons d ds =>
            rw [Tg.dsx] at e
            cases h : t.d ρ d with
            | error x => rw [h] at e; cases e
            | ok ρ1 =>
              rw [h] at e
              rw [List.length_cons, List.length_cons, ih ρ1 ds e]
      refine ⟨_, _, rfl, h.sqt, ?_, Tg.goes ok ts g r e fun σ' g' w => q σ' g' fun vs hw => w vs (by rw [Tg.within] at hw; exact hw)⟩
      rw [r.length, hl ts ρ _ e]
    | _ => simp [Tg.d, stuck] at e
theorem Tg.goes (ok : SetOk K O H C) : ∀ (ts : List Tg) {ρ ρ' : EnvD} {σ : St} {vs : List V} {ds : List PyData} {Q : St → Hp → Prop}, C ρ σ → Reps K H O vs ds → Tg.dsx ts ρ ds = .ok ρ' →
    (∀ σ', C ρ' σ' → (∀ vs, Tg.withins vs ts = true → L2.wipe σ' vs = L2.wipe σ vs) → Q σ' H) → Tg.gs K ts vs σ H Q
  | [], ρ, ρ', σ, vs, ds, Q, g, r, e, q => by
    cases r with
    | nil =>
      rw [Tg.dsx] at e
      cases e
      rw [Tg.gs]
      exact ⟨rfl, q σ g fun _ _ => rfl⟩
    | cons _ _ => simp [Tg.dsx, stuck] at e
  | t :: ts, ρ, ρ', σ, vs, ds, Q, g, r, e, q => by
    cases r with
    | nil => simp [Tg.dsx, stuck] at e
    | @cons x d xs ds rx rs =>
      rw [Tg.dsx] at e
      rw [Tg.gs]
      cases h : t.d ρ d with
      | error z => rw [h] at e; cases e
      | ok ρ1 =>
        rw [h] at e
        refine ⟨x, xs, rfl, Tg.go ok t g rx h fun σ1 g1 w1 => Tg.goes ok ts g1 rs e fun σ2 g2 w2 => q σ2 g2 fun us hu => ?_⟩
        rw [Tg.withins, Bool.and_eq_true] at hu
        rw [w2 us hu.2, w1 us hu.1]
end
end
end

/-! ### what is walked -/
structure Src (K : PySem.W.Frag) (J : It) (P : Hp → (Addr → Prop) → Prop) (ds : List PyData) : Prop where
  goes : ∀ i H O, i < ds.length → P H O → J.go i H
  stops : ∀ H O, P H O → J.stop ds.length H
  yields : ∀ i H O x H' d, ds[i]? = some d → P H O → OkO O H → J.yld i H x H' → Same H H' ∧ Rep K H' O x d
/-- P stands while all but the owned objects stand -/
def Firm (P : Hp → (Addr → Prop) → Prop) : Prop := ∀ H O H' O', Ext H O H' O' → P H O → P H' O'
/-- P stands while all objects stand; o: new ones may be owned -/
def Weak (P : Hp → (Addr → Prop) → Prop) : Prop := ∀ H O H' O', Same H H' → (∀ a, O' a → O a ∨ H a = none) → P H O → P H' O'
theorem Firm.weak {P} (f : Firm P) : Weak P := fun H O H' O' s o p => f H O H' O' ⟨fun a u h _ => s a u h, o, fun a u h => ⟨u, s a u h⟩⟩ p
def RI (X : Cx) (W : WX) (c : DL) : TI := fun σ H R => ∃ Hb ρ O, GoodE X.K Hb O ρ σ H ∧ Post X W O σ H (c ρ) fun ds => ∀ J P H', Same H H' → Src X.K J P ds → Firm P → P H' O → R J H'
def RIW (X : Cx) (W : WX) (c : DL) : TI := fun σ H R => ∃ Hb ρ O, GoodE X.K Hb O ρ σ H ∧ Post X W O σ H (c ρ) fun ds => ∀ J P H', Same H H' → Src X.K J P ds → Weak P → P H' O → R J H'
def itemsD : PyData → Rs (List PyData)
  | .list ds => .ok ds
  | .tuple ds => .ok ds
  | .str x => .ok (x.cps.toList.map fun c => .str ⟨#[c]⟩)
  | _ => stuck
def iD (a : DE) : DL := fun ρ => a ρ >>= itemsD
section
variable {X : Cx} {W : WX} {tg iter a b c e : Expr} {pos : Pos} {ca cb cc : DE} {cs : DL}
theorem pi_imp {w w' : TI} (h : PI X tg iter w) (i : ∀ σ H R, w' σ H R → w σ H R) : PI X tg iter w' := ⟨fun pins s σ H R I q => h.run pins s σ H R I (i σ H R q)⟩
theorem pi_or {w w' : TI} (h : PI X tg iter w) (h' : PI X tg iter w') : PI X tg iter (fun σ H R => w σ H R ∨ w' σ H R) :=
  ⟨fun pins s σ H R I q => q.elim (h.run pins s σ H R I) (h'.run pins s σ H R I)⟩
theorem ri_w (h : PI X tg iter (RI X W cs)) : PI X tg iter (RIW X W cs) := pi_imp h fun σ H R ⟨Hb, ρ, O, g, p⟩ => ⟨Hb, ρ, O, g, p.imp fun ds _ q J P H' s S f => q J P H' s S f.weak⟩
theorem src_list {K : PySem.W.Frag} {a : Addr} {xs : List V} {ds : List PyData} {P : Hp → (Addr → Prop) → Prop} (h : ∀ H O, P H O → SqL K H a xs ∧ Reps K H O xs ds) : Src K (Itl K a) P ds where
  goes := fun i H O hi p => by
    obtain ⟨q, r⟩ := h H O p
    exact walk_list.goes i H (by rw [r.length]; exact hi) q
  stops := fun H O p => by
    obtain ⟨q, r⟩ := h H O p
    rw [← r.length]
    exact walk_list.stops H q
  yields := fun i H O x H' d hd p _ y => by
    obtain ⟨q, r⟩ := h H O p
    obtain ⟨hl, _⟩ := List.getElem?_eq_some_iff.mp hd
    obtain ⟨e1, e2⟩ := walk_list.yields i H x H' (by rw [r.length]; exact hl) q y
    subst e1
    obtain ⟨d', e3, r3⟩ := pr_getL r e2
    rw [hd] at e3; cases e3
    exact ⟨Same.refl _, r3⟩
theorem src_tup {K : PySem.W.Frag} {a : Addr} {xs : List V} {ds : List PyData} {P : Hp → (Addr → Prop) → Prop} (h : ∀ H O, P H O → SqT K H a xs ∧ Reps K H O xs ds) : Src K (Itt K a) P ds where
  goes := fun i H O hi p => by
    obtain ⟨q, r⟩ := h H O p
    exact walk_tup.goes i H (by rw [r.length]; exact hi) q
  stops := fun H O p => by
    obtain ⟨q, r⟩ := h H O p
    rw [← r.length]
    exact walk_tup.stops H q
  yields := fun i H O x H' d hd p _ y => by
    obtain ⟨q, r⟩ := h H O p
    obtain ⟨hl, _⟩ := List.getElem?_eq_some_iff.mp hd
    obtain ⟨e1, e2⟩ := walk_tup.yields i H x H' (by rw [r.length]; exact hl) q y
    subst e1
    obtain ⟨d', e3, r3⟩ := pr_getL r e2
    rw [hd] at e3; cases e3
    exact ⟨Same.refl _, r3⟩
theorem src_str {K : PySem.W.Frag} {x : Str} : Src K (Its x) (fun _ _ => True) (x.cps.toList.map fun c => .str ⟨#[c]⟩) where
  goes := fun i H O hi _ => walk_str.goes i H (by simpa using hi) trivial
  stops := fun H O _ => by
    have := (walk_str (z := x)).stops H trivial
    simpa using this
  yields := fun i H O v H' d hd _ _ y => by
    have hi : i < x.cps.size := by
      obtain ⟨hl, _⟩ := List.getElem?_eq_some_iff.mp hd
      simpa using hl
    obtain ⟨e1, c, e2, e3⟩ := walk_str.yields i H v H' hi trivial y
    subst e1 e3
    rw [List.getElem?_map, Array.getElem?_toList, e2] at hd
    cases hd
    exact ⟨Same.refl _, .str _⟩
theorem src_range {K : PySem.W.Frag} {lo : Int} {n : Nat} : Src K (Itr lo n) (fun _ _ => True) ((List.range n).map fun (i : Nat) => .int (lo + i)) where
  goes := fun i H O hi _ => walk_range.goes i H (by simpa using hi) trivial
  stops := fun H O _ => by
    have := (walk_range (lo := lo) (n := n)).stops H trivial
    simpa using this
  yields := fun i H O v H' d hd _ _ y => by
    have hi : i < n := by
      obtain ⟨hl, _⟩ := List.getElem?_eq_some_iff.mp hd
      simpa using hl
    obtain ⟨e1, e2⟩ := walk_range.yields i H v H' hi trivial y
    subst e1 e2
    rw [List.getElem?_map, List.getElem?_range hi] at hd
    cases hd
    exact ⟨Same.refl _, .int _⟩
theorem firm_true : Firm (fun _ _ => True) := fun _ _ _ _ _ _ => trivial
/-- a value that is walked -/
theorem ri_e (he : PE X iter (RE X W ca)) : PI X tg iter (RI X W (iD ca)) :=
  pi_imp (pi_or (pi_list he) (pi_or (pi_tup he) (pi_str he))) fun σ H R ⟨Hb, ρ, O, g, p⟩ => by
    have p0 := p
    cases hc : ca ρ with
    | error er =>
      have : XW X W O σ H er := by
        have := p
        unfold iD at this
        rw [hc] at this
        exact this
      exact .inl ⟨Hb, ρ, O, g, by rw [hc]; exact this⟩
    | ok d =>
      have p : Post X W O σ H (itemsD d) fun ds => ∀ J P H', Same H H' → Src X.K J P ds → Firm P → P H' O → R J H' := by
        have := p
        unfold iD at this
        rw [hc] at this
        exact this
      cases d with
      | list ds =>
        refine .inl ⟨Hb, ρ, O, g, ?_⟩
        rw [hc]
        intro v H1 s r
        cases r with
        | @lst a xs _ h r =>
          refine ⟨a, rfl, ⟨xs, h.sql⟩, p _ (fun H' O' => LAt H' O' a xs ∧ Reps X.K H' O' xs ds) H1 s (src_list fun H' O' z => ⟨z.1.sql, z.2⟩) (fun H O H' O' e z => ⟨z.1.ext e, z.2.ext e⟩) ⟨h, RepAll.iff.mp r⟩⟩
      | tuple ds =>
        refine .inr (.inl ⟨Hb, ρ, O, g, ?_⟩)
        rw [hc]
        intro v H1 s r
        cases r with
        | @tup a xs _ h r =>
          refine ⟨a, rfl, ⟨xs, h.sqt⟩, p _ (fun H' O' => TAt X.K H' O' a xs ∧ Reps X.K H' O' xs ds) H1 s (src_tup fun H' O' z => ⟨z.1.sqt, z.2⟩) (fun H O H' O' e z => ⟨z.1.ext e, z.2.ext e⟩) ⟨h, RepAll.iff.mp r⟩⟩
      | str x =>
        refine .inr (.inr ⟨Hb, ρ, O, g, ?_⟩)
        rw [hc]
        intro v H1 s r
        cases r
        exact ⟨x, rfl, p _ _ H1 s src_str firm_true trivial⟩
      | _ => exact False.elim p
/-- a list that may be one's own -/
theorem riw_b (he : PE X iter (RB X W ca)) : PI X tg iter (RIW X W (iD ca)) :=
  pi_imp (pi_or (pi_list he) (pi_or (pi_tup he) (pi_str he))) fun σ H R ⟨Hb, ρ, O, g, p⟩ => by
    cases hc : ca ρ with
    | error er =>
      have : XW X W O σ H er := by
        have := p
        unfold iD at this
        rw [hc] at this
        exact this
      exact .inl ⟨Hb, ρ, O, g, by rw [hc]; exact this⟩
    | ok d =>
      have p : Post X W O σ H (itemsD d) fun ds => ∀ J P H', Same H H' → Src X.K J P ds → Weak P → P H' O → R J H' := by
        have := p
        unfold iD at this
        rw [hc] at this
        exact this
      cases d with
      | list ds =>
        refine .inl ⟨Hb, ρ, O, g, ?_⟩
        rw [hc]
        intro v H1 s r
        obtain ⟨a, xs, rfl, h, r⟩ := r.lst
        refine ⟨a, rfl, ⟨xs, h⟩, p _ (fun H' O' => SqL X.K H' a xs ∧ Reps X.K H' O' xs ds) H1 s (src_list fun H' O' z => z) (fun H O H' O' s o z => ⟨s.seq z.1, z.2.ext ⟨fun a u h _ => s a u h, o, fun a u h => ⟨u, s a u h⟩⟩⟩) ⟨h, r⟩⟩
      | tuple ds =>
        refine .inr (.inl ⟨Hb, ρ, O, g, ?_⟩)
        rw [hc]
        intro v H1 s r
        cases r.tupR with
        | @tup a xs _ h r =>
          refine ⟨a, rfl, ⟨xs, h.sqt⟩, p _ (fun H' O' => TAt X.K H' O' a xs ∧ Reps X.K H' O' xs ds) H1 s (src_tup fun H' O' z => ⟨z.1.sqt, z.2⟩) (Firm.weak fun H O H' O' e z => ⟨z.1.ext e, z.2.ext e⟩) ⟨h, RepAll.iff.mp r⟩⟩
      | str x =>
        refine .inr (.inr ⟨Hb, ρ, O, g, ?_⟩)
        rw [hc]
        intro v H1 s r
        obtain rfl := r.str
        exact ⟨x, rfl, p _ _ H1 s src_str firm_true.weak trivial⟩
      | _ => exact False.elim p
/-- range -/
def rngL (lo hi : Int) : List PyData := (List.range (hi - lo).toNat).map fun (i : Nat) => .int (lo + i)
def okR (i : Int) : Bool := decide (-(2 ^ 62) ≤ i ∧ i < 2 ^ 62)
def range1D : List PyData → Rs (List PyData)
  | [.int n] => if okR n then .ok (rngL 0 n) else stuck
  | _ => stuck
def range2D : List PyData → Rs (List PyData)
  | [.int m, .int n] => if okR m && okR n then .ok (rngL m n) else stuck
  | _ => stuck
theorem reps_int1 {K H O} {vs : List V} {i : Int} (h : Paired (RepB K H O) vs [.int i]) : vs = [.int i] := by
  obtain ⟨v, rfl, r⟩ := reps1 h
  rw [r.int]
theorem reps_int2 {K H O} {vs : List V} {i j : Int} (h : Paired (RepB K H O) vs [.int i, .int j]) : vs = [.int i, .int j] := by
  obtain ⟨v, w, rfl, r, r'⟩ := reps2 h
  rw [r.int, r'.int]
theorem ri_range1 {p : Pos} (hg : Gl X "range") (hm : X.mg "range" = none) (ha : PA X [a] (RAB X W cs)) (hs : starEach [a] X.env = [(false, eval a X.env)] := by rfl) : PI X tg (.Call (.Name "range" p) [a] [] pos) (RI X W (dCallL range1D cs)) :=
  pi_imp (pi_range1 hg hm ha hs) fun σ H R ⟨Hb, ρ, O, g, q⟩ => RAB.go g q fun ds vs H1 g1 s1 r1 p1 => by
    unfold range1D at p1
    split at p1
    · rename_i n
      split at p1
      · rename_i hk
        have hk := of_decide_eq_true hk
        have e := reps_int1 r1
        refine ⟨n, e, hk.1, hk.2, ?_⟩
        have := p1 (Itr 0 n.toNat) _ H1 s1 (by
          have h := src_range (K := X.K) (lo := 0) (n := n.toNat)
          unfold rngL
          rw [show n - 0 = n by omega]
          exact h) firm_true trivial
        exact this
      · exact p1.elim
    · exact p1.elim
theorem ri_range2 {p : Pos} (hg : Gl X "range") (hm : X.mg "range" = none) (ha : PA X [a, b] (RAB X W cs)) (hs : starEach [a, b] X.env = [(false, eval a X.env), (false, eval b X.env)] := by rfl) (hs2 : starEach [b] X.env = [(false, eval b X.env)] := by rfl) : PI X tg (.Call (.Name "range" p) [a, b] [] pos) (RI X W (dCallL range2D cs)) :=
  pi_imp (pi_range2 hg hm ha hs hs2) fun σ H R ⟨Hb, ρ, O, g, q⟩ => RAB.go g q fun ds vs H1 g1 s1 r1 p1 => by
    unfold range2D at p1
    split at p1
    · rename_i m n
      split at p1
      · rename_i hk
        rw [Bool.and_eq_true] at hk
        have h1 := of_decide_eq_true hk.1
        have h2 := of_decide_eq_true hk.2
        have e := reps_int2 r1
        exact ⟨m, n, e, ⟨h1.1, h1.2, h2.1, h2.2⟩, p1 (Itr m (n - m).toNat) _ H1 s1 src_range firm_true trivial⟩
      · exact p1.elim
    · exact p1.elim
end

/-! ### list comprehensions -/
def compL (t : Tg) (tt : DT) (e : DE) (ρ : EnvD) : List PyData → Rs (List PyData)
  | [] => .ok []
  | d :: ds => t.d ρ d >>= fun ρ1 => tt ρ1 >>= fun b => if b then e ρ1 >>= fun y => compL t tt e ρ ds >>= fun ys => .ok (y :: ys) else compL t tt e ρ ds
def tYesD : DT := fun _ => .ok true
def noExc {α : Type} : Rs α → Rs α
  | .ok a => .ok a
  | .error _ => stuck
def dComp (it : DL) (vs : List Nat) (t : Tg) (tt : DT) (e : DE) : DL := fun ρ => it ρ >>= fun ds => if t.within vs then noExc (compL t tt e (wipeD ρ vs) ds) >>= fun out => if okLen out.length then .ok out else stuck else stuck
/-- two fors -/
def comp2L (t : Tg) (tt : DT) (it1 : DL) (vs1 : List Nat) (t1 : Tg) (tt1 : DT) (e : DE) (ρ : EnvD) : List PyData → Rs (List PyData)
  | [] => .ok []
  | d :: ds => t.d ρ d >>= fun ρ1 => tt ρ1 >>= fun b => if b then it1 ρ1 >>= fun ds1 => compL t1 tt1 e (wipeD ρ1 vs1) ds1 >>= fun xs => comp2L t tt it1 vs1 t1 tt1 e ρ ds >>= fun ys => .ok (xs ++ ys) else comp2L t tt it1 vs1 t1 tt1 e ρ ds
def dComp2 (it : DL) (vs : List Nat) (t : Tg) (tt : DT) (it1 : DL) (vs1 : List Nat) (t1 : Tg) (tt1 : DT) (e : DE) : DL := fun ρ => it ρ >>= fun ds => if t.within vs && t1.within vs1 then noExc (comp2L t tt it1 vs1 t1 tt1 e (wipeD ρ vs) ds) >>= fun out => if okLen out.length then .ok out else stuck else stuck
abbrev W0 : WX := fun _ _ _ _ => False
theorem drop_cons {α : Type} {l : List α} {i : Nat} (h : i < l.length) : ∃ d, l[i]? = some d ∧ l.drop i = d :: l.drop (i + 1) := ⟨l[i], by simp [h], List.drop_eq_getElem_cons h⟩
theorem wipe_wipe (σ : St) (vs : List Nat) : wipe (wipe σ vs) vs = wipe σ vs := by
  have wi : ∀ us : List Nat, (∀ i ∈ us, i ∈ vs) → wipe (wipe σ vs) us = wipe σ vs := by
    intro us
    induction us with
    | nil => intro _; rfl
    | cons u us ih =>
      intro hu
      show (wipe (wipe σ vs) us).set u none = wipe σ vs
      rw [ih fun i hi => hu i (List.mem_cons_of_mem _ hi)]
      have : ∀ ws : List Nat, u ∈ ws → (wipe σ ws).set u none = wipe σ ws := by
        intro ws
        induction ws with
        | nil => intro h; cases h
        | cons w ws ih2 =>
          intro h
          show ((wipe σ ws).set w none).set u none = (wipe σ ws).set w none
          by_cases e : u = w
          · subst e; rw [List.set_set]
          · rw [List.set_comm _ _ (Ne.symm e), ih2 ((List.mem_cons.mp h).resolve_left e)]
      exact this vs (hu u List.mem_cons_self)
  exact wi vs fun _ h => h
section
variable {X : Cx} {W : WX} {it it1 : DL} {vs vs1 : List Nat} {t t1 : Tg} {tt tt1 : DT} {e : DE}
theorem ok_bind {α β : Type} {r : Rs α} {k : α → Rs β} {b : β} (h : (r >>= k) = .ok b) : ∃ a, r = .ok a ∧ k a = .ok b := by
  cases r with
  | ok a => exact ⟨a, rfl, h⟩
  | error x => cases h
/-- behind an error nothing is asked in a comprehension -/
theorem Post.w0 {O : Addr → Prop} {σ : St} {H : Hp} {α : Type} {r : Rs α} {P : α → Prop} {x : α} (e : r = .ok x) (p : P x) : Post X W0 O σ H r P := by
  rw [e]; exact p
theorem ext_app {H : Hp} {O : Addr → Prop} {D : Addr} {o : HO} (hO : O D) : Ext H O (upd H D o) O :=
  ⟨fun a u h n => by rw [upd_ne (fun z => n (by rw [z]; exact hO))]; exact h, fun a h => .inl h, fun a u h => by
    by_cases z : a = D
    · subst z; exact ⟨_, upd_same⟩
    · exact ⟨u, by rw [upd_ne z]; exact h⟩⟩
/-- all but D stands -/
def But (D : Addr) (H H' : Hp) : Prop := ∀ a o, a ≠ D → H a = some o → H' a = some o
theorem lc_loop {J : It} {P : Hp → (Addr → Prop) → Prop} {ds : List PyData} {Hb : Hp} {O' : Addr → Prop} {Hs : Hp} {D : Addr} {acc0 : List V} {dacc0 ys : List PyData} {ρ : EnvD} {σ : St} {Qd : Hp → Prop} (S : Src X.K J P ds)
    (hP : ∀ H' acc, But D Hs H' → H' D = some (.lst acc) → P H' O') (hD : Hb D = none) (hO : O' D) (h0 : Hs D = some (.lst acc0)) (r0 : Reps X.K Hs O' acc0 dacc0) (hw : t.within vs = true) (hc : compL t tt e (wipeD ρ vs) ds = .ok ys) (hlen : (dacc0 ++ ys).length ≤ sizeLine)
    (g : GoodE X.K Hb O' ρ σ Hs) (fin : ∀ H' acc, But D Hs H' → H' D = some (.lst acc) → Reps X.K H' O' acc (dacc0 ++ ys) → Qd H') :
    ∃ W : Nat → Nat → Hp → Prop, (∃ m, W 0 m Hs) ∧ ∀ i m H, W i m H →
      (J.stop i H ∧ Qd H) ∨ (J.go i H ∧ ∃ Nx : Hp → Prop, (∀ H', Nx H' → ∃ m', m' < m ∧ W (i + 1) m' H') ∧ ∀ x H', J.yld i H x H' → (t.g X.K) x (wipe σ vs) H' fun σ2 H2 => wipe σ2 vs = wipe σ vs ∧ (RT X W0 tt) σ2 H2 fun b H3 =>
        if b = true then (RE X W0 e) σ2 H3 fun y H4 => ∃ acc, H4 D = some (.lst acc) ∧ acc.length < sizeLine ∧ Nx (upd H4 D (.lst (acc ++ [y]))) else Nx H3) := by
  let Pv : Nat → Hp → Prop := fun i H' => ∃ acc dacc rest, H' D = some (.lst acc) ∧ Reps X.K H' O' acc dacc ∧ But D Hs H' ∧ compL t tt e (wipeD ρ vs) (ds.drop i) = .ok rest ∧ dacc ++ rest = dacc0 ++ ys
  refine ⟨fun i m H => m = ds.length - i ∧ i ≤ ds.length ∧ Pv i H, ⟨ds.length, by simp, Nat.zero_le _, acc0, dacc0, ys, h0, r0, fun _ _ _ h => h, by simpa using hc, rfl⟩, ?_⟩
  rintro i m H2 ⟨rfl, hi, acc, dacc, rest, h1, r1, s', hc1, hout⟩
  have p2 := hP H2 acc s' h1
  by_cases hlt : i < ds.length
  · refine .inr ⟨S.goes i H2 O' hlt p2, Pv (i + 1), fun H' p' => ⟨ds.length - (i + 1), by omega, rfl, hlt, p'⟩, fun x H3 hy => ?_⟩
    obtain ⟨d, hd, hdrop⟩ := drop_cons hlt
    have ex : Ext Hs O' H2 O' := ⟨fun a o h n => s' a o (fun z => n (z ▸ hO)) h, fun a h => .inl h, fun a o h => by
      by_cases z : a = D
      · exact ⟨_, by rw [z]; exact h1⟩
      · exact ⟨o, s' a o z h⟩⟩
    have g0 : GoodE X.K Hb O' ρ σ H2 := g.wider (fun a o h => s' a o (fun z => by rw [z, hD] at h; cases h) (g.same a o h)) ex fun a h => by
      obtain ⟨o, q⟩ := g.dom a h
      exact ex.there a o q
    obtain ⟨s3, rx⟩ := S.yields i H2 O' x H3 d hd p2 g0.dom hy
    rw [hdrop, compL] at hc1
    obtain ⟨ρ1, ht, hc1⟩ := ok_bind hc1
    obtain ⟨b, htt, hc1⟩ := ok_bind hc1
    refine Tg.go GoodE.setOk t ((g0.to s3).wipe vs) rx ht fun σ2 g3 hwp => ⟨by rw [hwp vs hw, wipe_wipe], Hb, ρ1, _, g3, Post.w0 htt fun H4 s4 => ?_⟩
    cases b with
    | false => exact ⟨acc, dacc, rest, s4 _ _ (s3 _ _ h1), r1.ext (Ext.same (s3.trans s4)), fun a o n h => s4 a o (s3 a o (s' a o n h)), hc1, hout⟩
    | true =>
      obtain ⟨y, he, hc1⟩ := ok_bind hc1
      obtain ⟨ys', hrest, hc1⟩ := ok_bind hc1
      cases hc1
      refine ⟨Hb, ρ1, _, g3.to s4, Post.w0 he fun yv H5 s5 ry => ?_⟩
      have sall := s3.trans (s4.trans s5)
      have hD5 : H5 D = some (.lst acc) := sall _ _ h1
      have el : acc.length = dacc.length := r1.length
      have el2 := congrArg List.length hout
      simp only [List.length_append, List.length_cons] at el2 hlen
      refine ⟨acc, hD5, by omega, acc ++ [yv], dacc ++ [y], ys', upd_same, pr_append ((r1.ext (Ext.same sall)).ext (ext_app hO)) (pr_one (ry.ext (ext_app hO))), ?_, hrest, by simpa using hout⟩
      intro a o n h
      rw [upd_ne n]
      exact sall a o (s' a o n h)
  · have ei : i = ds.length := by omega
    subst ei
    rw [List.drop_length, compL] at hc1
    cases hc1
    rw [List.append_nil] at hout
    exact .inl ⟨S.stops H2 O' p2, fin H2 acc s' h1 (by rw [← hout]; exact r1)⟩
/-- the state at a comprehension's beginning, its new list at D -/
theorem GoodE.begin {K : PySem.W.Frag} {Hb : Hp} {O : Addr → Prop} {ρ : EnvD} {σ : St} {H1 : Hp} {D : Addr} (g : GoodE K Hb O ρ σ H1) (hD : H1 D = none) : GoodE K H1 (fun b => O b ∨ b = D) ρ σ (upd H1 D (.lst [])) :=
  (show GoodE K H1 O ρ σ H1 from ⟨g.len, Same.refl H1, g.dom, g.dat, fun i ds h => (g.bor i ds h).elim fun a h => h.elim fun vs h => ⟨a, vs, h.1, g.same.seq h.2.1, h.2.2⟩⟩).wider (same_upd hD) (ext_new hD) fun a ha => by
    rcases ha with ha | rfl
    · obtain ⟨o, e1⟩ := g.dom a ha
      exact ⟨o, same_upd hD a o e1⟩
    · exact ⟨_, upd_same⟩
theorem but_same {H1 H' : Hp} {D : Addr} {o : HO} (hD : H1 D = none) (b : But D (upd H1 D o) H') : Same H1 H' := fun a u h => b a u (ne_of_none h hD) (same_upd hD a u h)
theorem lc_go {σ H Q} (h : RL X W (dComp it vs t tt e) σ H Q) : tLc (RIW X W it) (t.g X.K) (RT X W0 tt) (RE X W0 e) vs σ H Q := by
  obtain ⟨Hb, ρ, O, g, p⟩ := h
  refine ⟨Hb, ρ, O, g, p.bind.imp fun ds _ p J P H1 s1 S wk hP => ?_⟩
  intro D hD
  split at p
  · rename_i hw
    cases hr : compL t tt e (wipeD ρ vs) ds with
    | error er => rw [hr] at p; exact p.elim
    | ok out =>
      rw [hr] at p
      have p : Post X W O σ H (if okLen out.length = true then .ok out else stuck) fun ds => ∀ a vs H', Same H H' → H a = none → H' a = some (.lst vs) → Reps X.K H' (fun b => O b ∨ b = a) vs ds → Q (.ref a) H' := p
      split at p
      · rename_i hz
        have oo : ∀ a, (O a ∨ a = D) → O a ∨ H1 a = none := fun a h => h.elim .inl fun e => .inr (e ▸ hD)
        exact lc_loop (O' := fun b => O b ∨ b = D) (dacc0 := []) S (fun H' acc b _ => wk H1 O H' _ (but_same hD b) oo hP) hD (.inr rfl) upd_same .nil hw hr (by simpa using of_decide_eq_true hz) ((g.to s1).begin hD)
          (fun H' acc b hd r => p D acc H' (s1.trans (but_same hD b)) (s1.free hD) hd (by simpa using r))
      · exact p.elim
  · exact p.elim
theorem lc2_go {σ H Q} (h : RL X W (dComp2 it vs t tt it1 vs1 t1 tt1 e) σ H Q) : tLc2 (RIW X W it) (t.g X.K) (RT X W0 tt) (RI X W0 it1) (t1.g X.K) (RT X W0 tt1) (RE X W0 e) vs vs1 σ H Q := by
  obtain ⟨Hb, ρ, O, g, p⟩ := h
  refine ⟨Hb, ρ, O, g, p.bind.imp fun ds _ p J P H1 s1 S wk hP => ?_⟩
  intro D hD
  split at p
  · rename_i hw
    rw [Bool.and_eq_true] at hw
    cases hr : comp2L t tt it1 vs1 t1 tt1 e (wipeD ρ vs) ds with
    | error er => rw [hr] at p; exact p.elim
    | ok out =>
      rw [hr] at p
      have p : Post X W O σ H (if okLen out.length = true then .ok out else stuck) fun ds => ∀ a vs H', Same H H' → H a = none → H' a = some (.lst vs) → Reps X.K H' (fun b => O b ∨ b = a) vs ds → Q (.ref a) H' := p
      split at p
      · rename_i hz
        have hz := of_decide_eq_true hz
        have oo : ∀ a, (O a ∨ a = D) → O a ∨ H1 a = none := fun a h => h.elim .inl fun e => .inr (e ▸ hD)
        have hO : (fun b => O b ∨ b = D) D := .inr rfl
        have gb := (g.to s1).begin hD
        let Pv : Nat → Hp → Prop := fun i H' => ∃ acc dacc rest, H' D = some (.lst acc) ∧ Reps X.K H' (fun b => O b ∨ b = D) acc dacc ∧ Same H1 H' ∧ comp2L t tt it1 vs1 t1 tt1 e (wipeD ρ vs) (ds.drop i) = .ok rest ∧ dacc ++ rest = out
        refine ⟨fun i m H => m = ds.length - i ∧ i ≤ ds.length ∧ Pv i H, ⟨ds.length, by simp, Nat.zero_le _, [], [], out, upd_same, .nil, same_upd hD, by simpa using hr, rfl⟩, ?_⟩
        rintro i m H2 ⟨rfl, hi, acc, dacc, rest, h1, r1, s', hc1, hout⟩
        have p2 := wk H1 O H2 _ s' oo hP
        by_cases hlt : i < ds.length
        · refine .inr ⟨S.goes i H2 _ hlt p2, Pv (i + 1), fun H' p' => ⟨ds.length - (i + 1), by omega, rfl, hlt, p'⟩, fun x H3 hy => ?_⟩
          obtain ⟨d, hd, hdrop⟩ := drop_cons hlt
          have ex : Ext (upd H1 D (.lst [])) (fun b => O b ∨ b = D) H2 (fun b => O b ∨ b = D) := ⟨fun a o h n => s' a o (by rw [upd_ne (fun z => n (.inr z))] at h; exact h), fun a h => .inl h, fun a o h => by
            by_cases z : a = D
            · exact ⟨_, by rw [z]; exact h1⟩
            · rw [upd_ne z] at h; exact ⟨o, s' a o h⟩⟩
          have g0 : GoodE X.K H1 (fun b => O b ∨ b = D) ρ σ H2 := gb.wider s' ex fun a h => by
            obtain ⟨o, q⟩ := gb.dom a h
            exact ex.there a o q
          obtain ⟨s3, rx⟩ := S.yields i H2 _ x H3 d hd p2 g0.dom hy
          rw [hdrop, comp2L] at hc1
          obtain ⟨ρ1, ht, hc1⟩ := ok_bind hc1
          obtain ⟨b, htt, hc1⟩ := ok_bind hc1
          refine Tg.go GoodE.setOk t ((g0.to s3).wipe vs) rx ht fun σ2 g3 hwp => ⟨by rw [hwp vs hw.1, wipe_wipe], H1, ρ1, _, g3, Post.w0 htt fun H4 s4 => ?_⟩
          cases b with
          | false => exact ⟨acc, dacc, rest, s4 _ _ (s3 _ _ h1), r1.ext (Ext.same (s3.trans s4)), s'.trans (s3.trans s4), hc1, hout⟩
          | true =>
            obtain ⟨ds1, hi1, hc1⟩ := ok_bind hc1
            obtain ⟨xs, hx1, hc1⟩ := ok_bind hc1
            obtain ⟨ys', hrest, hc1⟩ := ok_bind hc1
            cases hc1
            refine ⟨H1, ρ1, _, g3.to s4, Post.w0 hi1 fun J1 P1 H5 s5 S1 fm hP1 => ?_⟩
            have sall := s3.trans (s4.trans s5)
            have hD5 : H5 D = some (.lst acc) := sall _ _ h1
            have hsub := congrArg List.length hout
            simp only [List.length_append] at hsub
            refine lc_loop (Hs := H5) (dacc0 := dacc) (ys := xs) S1 (fun H' acc' b h' => ?_) hD hO hD5 (r1.ext (Ext.same sall)) hw.2 hx1 (by simp only [List.length_append]; omega) ((g3.to s4).to s5) fun H' acc' b h' r' => ?_
            · refine fm H5 _ H' _ ⟨fun a o h n => b a o (fun z => n (.inr z)) h, fun a h => .inl h, fun a o h => ?_⟩ hP1
              by_cases z : a = D
              · exact ⟨_, by rw [z]; exact h'⟩
              · exact ⟨o, b a o z h⟩
            · exact ⟨acc', dacc ++ xs, ys', h', r', fun a o h => b a o (ne_of_none h hD) (sall a o (s' a o h)), hrest, by rw [← hout, List.append_assoc]⟩
        · have ei : i = ds.length := by omega
          subst ei
          rw [List.drop_length, comp2L] at hc1
          cases hc1
          rw [List.append_nil] at hout
          subst hout
          exact .inl ⟨S.stops H2 _ p2, p D acc H2 (s1.trans s') (s1.free hD) h1 r1⟩
      · exact p.elim
  · exact p.elim
/-- [e for t in it if tt] -/
theorem rl_lc {elt tg iter : Expr} {ifs : List Expr} {scope : Scope} {own : List (Str × Nat)} {pos : Pos} (hc : X.calm = true) (hN : X.N.Nodup) (hi : PI X tg iter (RIW X W it)) (ok : BlkOk X.N X.env.scope scope own)
    (hg : ∀ (s : Shared) (H : Hp) (C : Addr) (cl : List (Str × Addr)) (fp : List Addr), PG (X.blk s H scope (compEnvC scope cl C X.env) fp) tg (t.g X.K)) (ht : ∀ (s : Shared) (H : Hp) (C : Addr) (cl : List (Str × Addr)) (fp : List Addr), PTs (X.blk s H scope (compEnvC scope cl C X.env) fp) ifs (RT (X.blk s H scope (compEnvC scope cl C X.env) fp) W0 tt))
    (he : ∀ (s : Shared) (H : Hp) (C : Addr) (cl : List (Str × Addr)) (fp : List Addr), PE (X.blk s H scope (compEnvC scope cl C X.env) fp) elt (RE (X.blk s H scope (compEnvC scope cl C X.env) fp) W0 e)) (hs : ∀ x, foldedSetIterable iter X.env x = pure x := by intro _; rfl) :
    PE X (.ListComp elt [⟨tg, iter, ifs, 0⟩] scope pos) (RL X W (dComp it (own.map (·.2)) t tt e)) := pe_imp (pe_lc hc hN hi ok hg ht he hs) fun σ H Q h => lc_go h
/-- [e for t in it if tt for t1 in it1 if tt1] -/
theorem rl_lc2 {elt tg iter tg1 iter1 : Expr} {ifs ifs1 : List Expr} {scope : Scope} {own : List (Str × Nat)} {pos : Pos} (hc : X.calm = true) (hN : X.N.Nodup) (hi : PI X tg iter (RIW X W it)) (ok : BlkOk X.N X.env.scope scope own) (hv : ∀ i ∈ vs1, i ∈ own.map (·.2))
    (hg : ∀ (s : Shared) (H : Hp) (C : Addr) (cl : List (Str × Addr)) (fp : List Addr), PG (X.blk s H scope (compEnvC scope cl C X.env) fp) tg (t.g X.K)) (ht : ∀ (s : Shared) (H : Hp) (C : Addr) (cl : List (Str × Addr)) (fp : List Addr), PTs (X.blk s H scope (compEnvC scope cl C X.env) fp) ifs (RT (X.blk s H scope (compEnvC scope cl C X.env) fp) W0 tt))
    (hi1 : ∀ (s : Shared) (H : Hp) (C : Addr) (cl : List (Str × Addr)) (fp : List Addr), PI (X.blk s H scope (compEnvC scope cl C X.env) fp) tg1 iter1 (RI (X.blk s H scope (compEnvC scope cl C X.env) fp) W0 it1))
    (hg1 : ∀ (s : Shared) (H : Hp) (C : Addr) (cl : List (Str × Addr)) (fp : List Addr), PG (X.blk s H scope (compEnvC scope cl C X.env) fp) tg1 (t1.g X.K)) (ht1 : ∀ (s : Shared) (H : Hp) (C : Addr) (cl : List (Str × Addr)) (fp : List Addr), PTs (X.blk s H scope (compEnvC scope cl C X.env) fp) ifs1 (RT (X.blk s H scope (compEnvC scope cl C X.env) fp) W0 tt1))
    (he : ∀ (s : Shared) (H : Hp) (C : Addr) (cl : List (Str × Addr)) (fp : List Addr), PE (X.blk s H scope (compEnvC scope cl C X.env) fp) elt (RE (X.blk s H scope (compEnvC scope cl C X.env) fp) W0 e)) (hs : ∀ x, foldedSetIterable iter X.env x = pure x := by intro _; rfl) (hs1 : ∀ env x, foldedSetIterable iter1 env x = pure x := by intro _ _; rfl) :
    PE X (.ListComp elt [⟨tg, iter, ifs, 0⟩, ⟨tg1, iter1, ifs1, 0⟩] scope pos) (RL X W (dComp2 it (own.map (·.2)) t tt it1 vs1 t1 tt1 e)) := pe_imp (pe_lc2 hc hN hi ok hv hg ht hi1 hg1 ht1 he hs hs1) fun σ H Q h => lc2_go h
end
end Den

set_option Elab.async false
set_option linter.all false
set_option maxRecDepth 100000
set_option maxHeartbeats 4000000
namespace Den
open PySem PySem.Spec PyProof.Rows L2

/-! ### statements -/
inductive Out where
  | nx (ρ : EnvD)
  | rt (d : PyData)
  | bk (ρ : EnvD)
  | ct (ρ : EnvD)
  | xc (n : String) (p : Option (String × PyData)) (ρ : EnvD)
abbrev DS := EnvD → Rs Out
/-- an expression in a statement: its own error is the statement's -/
def lift {α : Type} (r : Rs α) (ρ : EnvD) (k : α → Rs Out) : Rs Out := match r with
  | .ok a => k a
  | .error .stuck => stuck
  | .error (.exc n p) => .ok (.xc n p ρ)
def sSkip : DS := fun ρ => .ok (.nx ρ)
def sSeq (a b : DS) : DS := fun ρ => match a ρ with
  | .ok (.nx ρ') => b ρ'
  | r => r
def sIf (t : DT) (a b : DS) : DS := fun ρ => lift (t ρ) ρ fun x => if x then a ρ else b ρ
def sSet (i : Nat) (e : DE) : DS := fun ρ => lift (e ρ) ρ fun d => .ok (.nx (ρ.set i (.dat d)))
def sOwn (i : Nat) (e : DL) : DS := fun ρ => lift (e ρ) ρ fun ds => .ok (.nx (ρ.set i (.ol ds)))
def sTg (t : Tg) (e : DE) : DS := fun ρ => lift (e ρ) ρ fun d => t.d ρ d >>= fun ρ' => .ok (.nx ρ')
def sDrop (e : DE) : DS := fun ρ => lift (e ρ) ρ fun _ => .ok (.nx ρ)
def sRet (e : DE) : DS := fun ρ => lift (e ρ) ρ fun d => .ok (.rt d)
def sRetN : DS := fun _ => .ok (.rt .none)
def sBreak : DS := fun ρ => .ok (.bk ρ)
def sCont : DS := fun ρ => .ok (.ct ρ)
def sRaise (n : String) : DS := fun ρ => .ok (.xc n none ρ)
def forD (t : Tg) (b : DS) : List PyData → EnvD → Rs Out
  | [], ρ => .ok (.nx ρ)
  | d :: ds, ρ => t.d ρ d >>= fun ρ1 => b ρ1 >>= fun o => match o with
    | .nx ρ2 => forD t b ds ρ2
    | .ct ρ2 => forD t b ds ρ2
    | .bk ρ2 => .ok (.nx ρ2)
    | o => .ok o
def sFor (it : DL) (t : Tg) (b : DS) : DS := fun ρ => lift (it ρ) ρ fun ds => forD t b ds ρ
def whileD (t : DT) (b : DS) : Nat → EnvD → Rs Out
  | 0, _ => stuck
  | n + 1, ρ => lift (t ρ) ρ fun x => if x then b ρ >>= fun o => match o with
      | .nx ρ2 => whileD t b n ρ2
      | .ct ρ2 => whileD t b n ρ2
      | .bk ρ2 => .ok (.nx ρ2)
      | o => .ok o
    else .ok (.nx ρ)
def sWhile (fuel : Nat) (t : DT) (b : DS) : DS := whileD t b fuel
/-- a list of one's own changes no more -/
def frzD (i : Nat) (ρ : EnvD) : EnvD := match ρ[i]? with
  | some (.ol ds) => ρ.set i (.dat (.list ds))
  | _ => ρ
def sFrz (i : Nat) (b : DS) : DS := fun ρ => b (frzD i ρ)

section
variable (X : Cx) (G : Gd) (W : WX)
def OutP (D : Ends) (H : Hp) (O : Addr → Prop) : Out → Prop
  | .nx ρ' => ∀ σ' H' O', Ext H O H' O' → Good X.K G O' ρ' σ' H' → D.nx σ' H'
  | .bk ρ' => ∀ σ' H' O', Ext H O H' O' → Good X.K G O' ρ' σ' H' → D.bk σ' H'
  | .ct ρ' => ∀ σ' H' O', Ext H O H' O' → Good X.K G O' ρ' σ' H' → D.ct σ' H'
  | .rt d => ∀ v H' O', Ext H O H' O' → Same G.H0 H' → Rep X.K H' G.O0 v d → D.rt v H'
  | .xc n none ρ' => ∃ C, X.mg n = some (.ref C) ∧ ∀ σ' H' O', Ext H O H' O' → Good X.K G O' ρ' σ' H' → W (.ref C) none σ' H'
  | .xc n (some (f, p)) ρ' => ∃ C, X.mg n = some (.ref C) ∧ ∀ σ' H' O' dd v, Ext H O H' O' → Good X.K G O' ρ' σ' H' → H' dd = some (.xd [((f : Str), v)]) → Rep X.K H' O' v p → W (.ref C) (some dd) σ' H'
def OutR (D : Ends) (H : Hp) (O : Addr → Prop) (r : Rs Out) : Prop := match r with
  | .ok o => OutP X G W D H O o
  | .error _ => False
def RS (c : DS) : TS := fun D σ H => ∃ ρ O, Good X.K G O ρ σ H ∧ OutR X G W D H O (c ρ)
end
section
variable {X : Cx} {G : Gd} {W : WX} {D : Ends} {O O' : Addr → Prop} {ρ : EnvD} {σ : St} {H H' : Hp}
theorem OutP.ext {o : Out} (e : Ext H O H' O') (h : OutP X G W D H O o) : OutP X G W D H' O' o := by
  cases o with
  | nx ρ' => exact fun σ' H2 O2 f g => h σ' H2 O2 (e.trans f) g
  | bk ρ' => exact fun σ' H2 O2 f g => h σ' H2 O2 (e.trans f) g
  | ct ρ' => exact fun σ' H2 O2 f g => h σ' H2 O2 (e.trans f) g
  | rt d => exact fun v H2 O2 f s r => h v H2 O2 (e.trans f) s r
  | xc n p ρ' =>
    cases p with
    | none =>
      obtain ⟨C, hm, h⟩ := h
      exact ⟨C, hm, fun σ' H2 O2 f g => h σ' H2 O2 (e.trans f) g⟩
    | some fp =>
      obtain ⟨fl, p⟩ := fp
      obtain ⟨C, hm, h⟩ := h
      exact ⟨C, hm, fun σ' H2 O2 dd v f g => h σ' H2 O2 dd v (e.trans f) g⟩
theorem OutR.ext {r : Rs Out} (e : Ext H O H' O') (h : OutR X G W D H O r) : OutR X G W D H' O' r := by
  cases r with
  | ok o => exact OutP.ext e h
  | error z => exact h
/-- an expression in a statement -/
theorem OutR.lift {α : Type} {r : Rs α} {k : α → Rs Out} {P : α → Prop} (g : Good X.K G O ρ σ H) (h : OutR X G W D H O (lift r ρ k)) (f : ∀ a, r = .ok a → OutR X G W D H O (k a) → P a) : Post X W O σ H r P := by
  cases r with
  | ok a => exact f a rfl h
  | error z =>
    cases z with
    | stuck => exact h
    | exc n p =>
      cases p with
      | none =>
        obtain ⟨C, hm, h⟩ := h
        exact ⟨C, hm, fun H' s => h σ H' O (Ext.same s) (g.to s)⟩
      | some fp =>
        obtain ⟨fl, p⟩ := fp
        obtain ⟨C, hm, h⟩ := h
        exact ⟨C, hm, fun H' dd v s e r => h σ H' O dd v (Ext.same s) (g.to s) e r⟩
theorem OutR.bind {α : Type} {r : Rs α} {k : α → Rs Out} (h : OutR X G W D H O (r >>= k)) : ∃ a, r = .ok a ∧ OutR X G W D H O (k a) := by
  cases r with
  | ok a => exact ⟨a, rfl, h⟩
  | error z => exact h.elim
end
section
variable {X : Cx} {G : Gd} {W : WX} {st : Stmt} {rest : List Stmt} {e iter tg : Expr} {pos : Pos} {ca cb : DS} {ce : DE} {cl : DL} {ct : DT}
theorem rs_nil : PSs X [] (RS X G W sSkip) := pss_imp pss_nil fun D σ H ⟨ρ, O, g, p⟩ => p σ H O Ext.refl g
theorem rs_pass : PS X (.Pass pos) (RS X G W sSkip) := ps_imp ps_pass fun D σ H ⟨ρ, O, g, p⟩ => p σ H O Ext.refl g
theorem seq_go {D : Ends} {σ : St} {H : Hp} (h : RS X G W (sSeq ca cb) D σ H) : tSeq (RS X G W ca) (RS X G W cb) D σ H := by
  obtain ⟨ρ, O, g, p⟩ := h
  refine ⟨ρ, O, g, ?_⟩
  unfold sSeq at p
  cases hc : ca ρ with
  | error z => rw [hc] at p; exact p.elim
  | ok o =>
    rw [hc] at p
    cases o with
    | nx ρ' => exact fun σ' H' O' f g' => ⟨ρ', O', g', OutR.ext f p⟩
    | xc n pl ρ' =>
      cases pl with
      | none => exact p
      | some fp => obtain ⟨fl, pp⟩ := fp; exact p
    | _ => exact p
theorem rs_cons (h1 : PS X st (RS X G W ca)) (h2 : PSs X rest (RS X G W cb)) : PSs X (st :: rest) (RS X G W (sSeq ca cb)) := pss_imp (pss_cons h1 h2) fun D σ H h => seq_go h
theorem rs_one (h1 : PS X st (RS X G W ca)) : PSs X [st] (RS X G W ca) := pss_one h1
theorem rs_if {c : Expr} {a b : List Stmt} (hc : PT X c (RT X W ct)) (ha : PSs X a (RS X G W ca)) (hb : PSs X b (RS X G W cb)) : PS X (.If c a b pos) (RS X G W (sIf ct ca cb)) :=
  ps_imp (ps_if hc ha hb) fun D σ H ⟨ρ, O, g, p⟩ => ⟨H, ρ, O, g.e, OutR.lift g p fun b _ p H' s => by
    cases b with
    | true => exact ⟨ρ, O, g.to s, OutR.ext (Ext.same s) p⟩
    | false => exact ⟨ρ, O, g.to s, OutR.ext (Ext.same s) p⟩⟩
theorem set_go {i : Nat} {D : Ends} {σ : St} {H : Hp} (h : RS X G W (sSet i ce) D σ H) : tAsg (RE X W ce) (gName i) D σ H := by
  obtain ⟨ρ, O, g, p⟩ := h
  exact ⟨H, ρ, O, g.e, OutR.lift g p fun d _ p v H' s r => p _ H' O (Ext.same s) ((g.to s).set i r)⟩
theorem rs_set {i : Nat} {x : Str} {pos' : Pos} (hN : X.N.Nodup) (hi : X.N[i]? = some x) (hx : Loc X.env.scope x) (he : PE X e (RE X W ce)) (hs : swapsWith e (some (.Name x pos')) pos.line X.env = pure false := by rfl) (hf : X.fn x = true ∨ X.env.scope.names.lookup x = some .local := by first | exact .inl rfl | exact .inr rfl | assumption) :
    PS X (.Assign [.Name x pos'] e pos) (RS X G W (sSet i ce)) := ps_imp (ps_set hN hi hx he hs hf) fun D σ H h => set_go h
theorem Good.own {K : PySem.W.Frag} {O : Addr → Prop} {ρ : EnvD} {σ : St} {H H' : Hp} {a : Addr} {vs : List V} {ds : List PyData} (g : Good K G O ρ σ H) (i : Nat) (s : Same H H') (n : H a = none) (h : H' a = some (.lst vs)) (r : Reps K H' (fun b => O b ∨ b = a) vs ds) :
    Good K G (fun b => O b ∨ b = a) (ρ.set i (.ol ds)) (σ.set i (some (.ref a))) H' := by
  have okO : OkO (fun b => O b ∨ b = a) H' := fun b hb => by
    rcases hb with hb | rfl
    · obtain ⟨o, e⟩ := g.dom b hb
      exact ⟨o, s b o e⟩
    · exact ⟨_, h⟩
  have g1 : Good K G (fun b => O b ∨ b = a) ρ σ H' := g.wider s (fun _ h => .inl h) (fun b hb => hb.elim .inl fun z => .inr (z ▸ n)) okO
  have ne : ∀ (j : Nat) (es : List PyData), ρ[j]? = some (.ol es) → σ[j]? ≠ some (some (.ref a)) := fun j es hj hs => by
    obtain ⟨b, us, e1, h1, _⟩ := g.ol j es hj
    rw [hs] at e1
    cases e1
    rw [n] at h1; cases h1
  exact
  { len := by rw [List.length_set, List.length_set]; exact g.len
    same := g1.same
    sub := g1.sub
    dom := g1.dom
    dat := fun j d hj => by
      rcases set_some hj with ⟨rfl, z, hl⟩ | ⟨m, hj⟩
      · cases z
      · obtain ⟨v, e1, r1⟩ := g1.dat j d hj
        exact ⟨v, by rw [set_off m]; exact e1, r1⟩
    ol := fun j d hj => by
      rcases set_some hj with ⟨rfl, z, hl⟩ | ⟨m, hj⟩
      · cases z
        refine ⟨a, vs, set_at (by rw [← g.len]; exact hl), h, r, .inr rfl, ?_⟩
        cases q : G.H0 a with
        | none => rfl
        | some o => rw [g.same a o q] at n; cases n
      · obtain ⟨b, us, e1, r1⟩ := g1.ol j d hj
        exact ⟨b, us, by rw [set_off m]; exact e1, r1⟩
    fz := fun j d hj => by
      rcases set_some hj with ⟨rfl, z, hl⟩ | ⟨m, hj⟩
      · cases z
      · obtain ⟨b, us, e1, r1⟩ := g1.fz j d hj
        exact ⟨b, us, by rw [set_off m]; exact e1, r1⟩
    od := fun j d hj => by
      rcases set_some hj with ⟨rfl, z, hl⟩ | ⟨m, hj⟩
      · cases z
      · exact g1.od j d hj
    inj := fun j k b ds1 es1 hj hk sj sk => by
      rcases set_some hj with ⟨rfl, z, hl⟩ | ⟨m, hj⟩
      · rcases set_some hk with ⟨rfl, z2, hl2⟩ | ⟨m2, hk⟩
        · rfl
        · rw [set_at (by rw [← g.len]; exact hl)] at sj
          cases sj
          rw [set_off m2] at sk
          exact absurd sk (ne k es1 hk)
      · rw [set_off m] at sj
        rcases set_some hk with ⟨rfl, z2, hl2⟩ | ⟨m2, hk⟩
        · rw [set_at (by rw [← g.len]; exact hl2)] at sk
          cases sk
          exact absurd sj (ne j ds1 hj)
        · rw [set_off m2] at sk
          exact g1.inj j k b ds1 es1 hj hk sj sk }
theorem own_go {i : Nat} {D : Ends} {σ : St} {H : Hp} (h : RS X G W (sOwn i cl) D σ H) : tAsg (RL X W cl) (gName i) D σ H := by
  obtain ⟨ρ, O, g, p⟩ := h
  exact ⟨H, ρ, O, g.e, OutR.lift g p fun ds _ p a vs H' s n h r => p _ H' _ ⟨fun b o hb _ => s b o hb, fun b hb => hb.elim .inl fun z => .inr (z ▸ n), fun b o hb => ⟨o, s b o hb⟩⟩ (g.own i s n h r)⟩
theorem rs_own {i : Nat} {x : Str} {pos' : Pos} (hN : X.N.Nodup) (hi : X.N[i]? = some x) (hx : Loc X.env.scope x) (he : PE X e (RL X W cl)) (hs : swapsWith e (some (.Name x pos')) pos.line X.env = pure false := by rfl) (hf : X.fn x = true ∨ X.env.scope.names.lookup x = some .local := by first | exact .inl rfl | exact .inr rfl | assumption) :
    PS X (.Assign [.Name x pos'] e pos) (RS X G W (sOwn i cl)) := ps_imp (ps_set hN hi hx he hs hf) fun D σ H h => own_go h
/-- a list that no one changes -/
theorem rl_set_go {i : Nat} {D : Ends} {σ : St} {H : Hp} (h : RS X G W (sSet i (dLst cl)) D σ H) : tAsg (RL X W cl) (gName i) D σ H := by
  obtain ⟨ρ, O, g, p⟩ := h
  refine ⟨H, ρ, O, g.e, ?_⟩
  have q : Post X W O σ H (dLst cl ρ) fun d => ∀ v H', Same H H' → Rep X.K H' O v d → D.nx (σ.set i (some v)) H' := OutR.lift g p fun d _ p v H' s r => p _ H' O (Ext.same s) ((g.to s).set i r)
  exact (Post.map'.mp q).imp fun ds _ q a vs H' s n ha r => q (.ref a) H' s (.lst ⟨ha, fresh_no g.e n⟩ (RepAll.iff.mpr (r.ext (Ext.less fun b z => .inl z))))
theorem rs_tg {t : Tg} (he : PE X e (RE X W ce)) (hg : PG X tg (t.g X.K)) (hs : swapsWithSole [tg] e pos.line X.env = pure false := by rfl) (hw : swappedStores [tg] e X.env = pure none := by rfl)
    (h1 : (assignEach [tg] X.env).map (·.2) = [assign tg X.env] := by rfl) : PS X (.Assign [tg] e pos) (RS X G W (sTg t ce)) :=
  ps_imp (ps_asg he hg hs hw h1) fun D σ H ⟨ρ, O, g, p⟩ => ⟨H, ρ, O, g.e, OutR.lift g p fun d _ p v H' s r => by
    obtain ⟨ρ', ht, p⟩ := OutR.bind p
    exact Tg.go Good.setOk t (g.to s) r ht fun σ' g' _ => p σ' H' O (Ext.same s) g'⟩
theorem rs_expr (he : PE X e (RE X W ce)) (hs : swapsWith e none pos.line X.env = pure false := by rfl) : PS X (.Expr e pos) (RS X G W (sDrop ce)) :=
  ps_imp (ps_expr he hs) fun D σ H ⟨ρ, O, g, p⟩ => ⟨H, ρ, O, g.e, OutR.lift g p fun d _ p v H' s r => p σ H' O (Ext.same s) (g.to s)⟩
theorem Rep.out {K : PySem.W.Frag} {O : Addr → Prop} {H : Hp} {v d} (h : Rep K H O v d) (s : ∀ a, G.O0 a → O a) : Rep K H G.O0 v d := h.ext (Ext.less s)
theorem rs_ret (he : PE X e (RE X W ce)) : PS X (.Return (some e) pos) (RS X G W (sRet ce)) :=
  ps_imp (ps_ret he) fun D σ H ⟨ρ, O, g, p⟩ => ⟨H, ρ, O, g.e, OutR.lift g p fun d _ p v H' s r => p v H' O (Ext.same s) (g.same.trans s) (r.out g.sub)⟩
/-- a list of one's own is handed back -/
def sRetOwn (i : Nat) : DS := fun ρ => match ρ[i]? with
  | some (.ol ds) => .ok (.rt (.list ds))
  | some (.dat d) => .ok (.rt d)
  | _ => stuck
theorem rs_retOwn (i : Nat) {x : Str} {pos2 : Pos} (hN : X.N[i]? = some x := by rfl) (hv : Vis X.env.scope x := by first | exact Or.inl rfl | exact Or.inr (Or.inl rfl) | exact Or.inr (Or.inr rfl)) (hd : (x == ("__debug__" : Str)) = false := by decide)
    (hcd : (x == ("__classdict__" : Str)) = false := by decide) : PS X (.Return (some (.Name x pos2)) pos) (RS X G W (sRetOwn i)) :=
  ps_imp (ps_ret (pe_var hN hv hd hcd)) fun D σ H ⟨ρ, O, g, p⟩ => by
    unfold sRetOwn at p
    split at p
    · rename_i ds e
      obtain ⟨a, vs, e1, h1, r, o, f⟩ := g.ol i ds e
      refine ⟨_, e1, p _ H O Ext.refl g.same (.lst ⟨h1, fun z => ?_⟩ (RepAll.iff.mpr (r.ext (Ext.less g.sub))))⟩
      obtain ⟨u, q⟩ := G.dom a z
      rw [f] at q; cases q
    · rename_i d e
      obtain ⟨v, e1, r⟩ := g.dat i d e
      exact ⟨v, e1, p v H O Ext.refl g.same (r.out g.sub)⟩
    · exact p.elim
theorem rs_retN : PS X (.Return none pos) (RS X G W sRetN) := ps_imp ps_retN fun D σ H ⟨ρ, O, g, p⟩ => p .non H O Ext.refl g.same .non
theorem rs_break : PS X (.Break pos) (RS X G W sBreak) := ps_imp ps_break fun D σ H ⟨ρ, O, g, p⟩ => p σ H O Ext.refl g
theorem rs_cont : PS X (.Continue pos) (RS X G W sCont) := ps_imp ps_continue fun D σ H ⟨ρ, O, g, p⟩ => p σ H O Ext.refl g
theorem for_go {t : Tg} {D : Ends} {σ : St} {H : Hp} (h : RS X G W (sFor cl t cb) D σ H) : tFor (RI X W cl) (t.g X.K) (RS X G W cb) D σ H := by
  obtain ⟨ρ, O, g, p⟩ := h
  refine ⟨H, ρ, O, g.e, OutR.lift g p fun ds _ p J P H1 s1 S fm hP => ?_⟩
  refine ⟨fun i m σ' H' => m = ds.length - i ∧ i ≤ ds.length ∧ ∃ ρ' O', Good X.K G O' ρ' σ' H' ∧ P H' O' ∧ OutR X G W D H' O' (forD t cb (ds.drop i) ρ'), ⟨ds.length, by simp, Nat.zero_le _, ρ, O, g.to s1, hP, OutR.ext (Ext.same s1) (by simpa using p)⟩, ?_⟩
  rintro i m σ2 H2 ⟨rfl, hi, ρ2, O2, g2, p2, q2⟩
  by_cases hlt : i < ds.length
  · refine .inr ⟨S.goes i H2 O2 hlt p2, fun σ' H' => ∃ ρ' O', Good X.K G O' ρ' σ' H' ∧ P H' O' ∧ OutR X G W D H' O' (forD t cb (ds.drop (i + 1)) ρ'), fun σ' H' p' => ⟨ds.length - (i + 1), by omega, rfl, hlt, p'⟩, fun x H3 hy => ?_⟩
    obtain ⟨d, hd, hdrop⟩ := drop_cons hlt
    obtain ⟨s3, rx⟩ := S.yields i H2 O2 x H3 d hd p2 g2.dom hy
    rw [hdrop, forD] at q2
    obtain ⟨ρ1, ht, q2⟩ := OutR.bind q2
    obtain ⟨o, hb, q2⟩ := OutR.bind q2
    refine Tg.go Good.setOk t (g2.to s3) rx ht fun σ4 g4 _ => ⟨ρ1, O2, g4, ?_⟩
    rw [hb]
    cases o with
    | nx ρ3 => exact fun σ' H' O' e g' => ⟨ρ3, O', g', fm H3 O2 H' O' e (fm H2 O2 H3 O2 (Ext.same s3) p2), OutR.ext ((Ext.same s3).trans e) q2⟩
    | ct ρ3 => exact fun σ' H' O' e g' => ⟨ρ3, O', g', fm H3 O2 H' O' e (fm H2 O2 H3 O2 (Ext.same s3) p2), OutR.ext ((Ext.same s3).trans e) q2⟩
    | bk ρ3 => exact fun σ' H' O' e g' => q2 σ' H' O' ((Ext.same s3).trans e) g'
    | rt d => exact fun v H' O' e s r => q2 v H' O' ((Ext.same s3).trans e) s r
    | xc n pl ρ3 =>
      have q3 : OutP X G W D H3 O2 (.xc n pl ρ3) := OutP.ext (Ext.same s3) q2
      cases pl with
      | none => exact q3
      | some fp => obtain ⟨f, pp⟩ := fp; exact q3
  · have ei : i = ds.length := by omega
    subst ei
    rw [List.drop_length, forD] at q2
    exact .inl ⟨S.stops H2 O2 p2, q2 σ2 H2 O2 Ext.refl g2⟩
theorem rs_for {t : Tg} {body : List Stmt} (hp : PassesOwn (model X.prog X.w) X.A X.env X.xe) (hc : X.calm = true) (hi : PI X tg iter (RI X W cl)) (hg : PG X tg (t.g X.K)) (hb : PSs X body (RS X G W cb))
    (hs : ∀ x, foldedSetIterable iter X.env x = pure x := by intro _; rfl) : PS X (.For tg iter body [] pos) (RS X G W (sFor cl t cb)) := ps_imp (ps_for hp hc hi hg hb hs) fun D σ H h => for_go h
theorem while_go {fuel : Nat} {D : Ends} {σ : St} {H : Hp} (h : RS X G W (sWhile fuel ct cb) D σ H) : tWhile (RT X W ct) (RS X G W cb) D σ H := by
  obtain ⟨ρ, O, g, p⟩ := h
  refine ⟨fun m σ' H' => ∃ ρ' O', Good X.K G O' ρ' σ' H' ∧ OutR X G W D H' O' (whileD ct cb m ρ'), ⟨fuel, ρ, O, g, p⟩, ?_⟩
  rintro m σ2 H2 ⟨ρ2, O2, g2, q2⟩
  cases m with
  | zero => exact q2.elim
  | succ m =>
    rw [whileD] at q2
    refine ⟨H2, ρ2, O2, g2.e, OutR.lift g2 q2 fun b _ q H3 s3 => ?_⟩
    cases b with
    | false => exact q σ2 H3 O2 (Ext.same s3) (g2.to s3)
    | true =>
      obtain ⟨o, hb, q⟩ := OutR.bind (show OutR X G W D H2 O2 (cb ρ2 >>= fun o => match o with
        | .nx ρ2 => whileD ct cb m ρ2
        | .ct ρ2 => whileD ct cb m ρ2
        | .bk ρ2 => .ok (.nx ρ2)
        | o => .ok o) from q)
      refine ⟨fun σ' H' => ∃ ρ' O', Good X.K G O' ρ' σ' H' ∧ OutR X G W D H' O' (whileD ct cb m ρ'), fun σ' H' h => ⟨m, Nat.lt_succ_self m, h⟩, ρ2, O2, g2.to s3, ?_⟩
      rw [hb]
      cases o with
      | nx ρ3 => exact fun σ' H' O' e g' => ⟨ρ3, O', g', OutR.ext ((Ext.same s3).trans e) q⟩
      | ct ρ3 => exact fun σ' H' O' e g' => ⟨ρ3, O', g', OutR.ext ((Ext.same s3).trans e) q⟩
      | bk ρ3 => exact fun σ' H' O' e g' => q σ' H' O' ((Ext.same s3).trans e) g'
      | rt d => exact fun v H' O' e s r => q v H' O' ((Ext.same s3).trans e) s r
      | xc n pl ρ3 =>
        have q3 : OutP X G W D H3 O2 (.xc n pl ρ3) := OutP.ext (Ext.same s3) q
        cases pl with
        | none => exact q3
        | some fp => obtain ⟨f, pp⟩ := fp; exact q3
theorem rs_while {c : Expr} {body : List Stmt} (fuel : Nat) (hp : PassesOwn (model X.prog X.w) X.A X.env X.xe) (hc : PT X c (RT X W ct)) (hb : PSs X body (RS X G W cb)) : PS X (.While c body [] pos) (RS X G W (sWhile fuel ct cb)) := ps_imp (ps_while hp hc hb) fun D σ H h => while_go h
theorem Good.frz {K : PySem.W.Frag} {O : Addr → Prop} {ρ : EnvD} {σ : St} {H : Hp} (g : Good K G O ρ σ H) (i : Nat) : ∃ O', Good K G O' (frzD i ρ) σ H ∧ ∀ a, O' a → O a := by
  unfold frzD
  split
  · rename_i ds e
    obtain ⟨a, vs, e1, h1, r, o, f⟩ := g.ol i ds e
    refine ⟨fun b => O b ∧ b ≠ a, ?_, fun _ h => h.1⟩
    have hl : i < ρ.length := (List.getElem?_eq_some_iff.mp e).1
    have less : Ext H O H (fun b => O b ∧ b ≠ a) := Ext.less fun _ h => h.1
    exact
    { len := by rw [List.length_set]; exact g.len
      same := g.same
      sub := fun b hb => ⟨g.sub b hb, fun z => by
        subst z
        obtain ⟨u, q⟩ := G.dom _ hb
        rw [f] at q; cases q⟩
      dom := fun b hb => g.dom b hb.1
      dat := fun j d hj => by
        rcases set_some hj with ⟨rfl, z, _⟩ | ⟨n, hj⟩
        · cases z
          exact ⟨_, e1, .lst ⟨h1, fun h => h.2 rfl⟩ (RepAll.iff.mpr (r.ext less))⟩
        · obtain ⟨v, ev, rv⟩ := g.dat j d hj
          exact ⟨v, ev, rv.ext less⟩
      ol := fun j d hj => by
        rcases set_some hj with ⟨rfl, z, _⟩ | ⟨n, hj⟩
        · cases z
        · obtain ⟨b, us, eb, hb, rb, ob, fb⟩ := g.ol j d hj
          refine ⟨b, us, eb, hb, rb.ext less, ⟨ob, fun z => ?_⟩, fb⟩
          subst z
          exact n (g.inj i j b ds d e hj e1 eb)
      fz := fun j d hj => by
        rcases set_some hj with ⟨rfl, z, _⟩ | ⟨n, hj⟩
        · cases z
        · obtain ⟨b, us, eb, hb, rb⟩ := g.fz j d hj
          exact ⟨b, us, eb, hb, rb.ext less⟩
      od := fun j d hj => by
        rcases set_some hj with ⟨rfl, z, _⟩ | ⟨n, hj⟩
        · cases z
        · exact g.od j d hj
      inj := fun j k b ds1 es1 hj hk sj sk => by
        rcases set_some hj with ⟨rfl, z, _⟩ | ⟨n, hj⟩
        · cases z
        · rcases set_some hk with ⟨rfl, z, _⟩ | ⟨n2, hk⟩
          · cases z
          · exact g.inj j k b ds1 es1 hj hk sj sk }
  · exact ⟨O, g, fun _ h => h⟩
theorem rs_frz (i : Nat) (h : PS X st (RS X G W ca)) : PS X st (RS X G W (sFrz i ca)) := ps_imp h fun D σ H ⟨ρ, O, g, p⟩ => by
  obtain ⟨O', g', le⟩ := g.frz i
  exact ⟨frzD i ρ, O', g', OutR.ext (Ext.less le) p⟩
/-- raise C('..') -/
theorem rs_raise {pe : Expr} {n : String} {C : Addr} (hc : X.calm = true) (tk : Takes X W) (he : PMk X pe (fun _ H Q => Q (.ref C) none H)) (hm : X.mg n = some (.ref C)) : PS X (.Raise (some pe) none pos) (RS X G W (sRaise n)) :=
  ps_imp (ps_raise hc tk he) fun D σ H ⟨ρ, O, g, p⟩ => by
    obtain ⟨C', hm', p⟩ := p
    rw [hm] at hm'
    cases hm'
    exact p σ H O Ext.refl g
end

/-! ### defs -/
/-- a def's promise: what its function says -/
def XwK (K : PySem.W.Frag) (mg : Str → Option Value) (E : XK) (O : Addr → Prop) (H : Hp) : Err → Prop
  | .stuck => False
  | .exc n none => ∃ C, mg n = some (.ref C) ∧ ∀ H', Same H H' → E (.ref C) none H'
  | .exc n (some (f, p)) => ∃ C, mg n = some (.ref C) ∧ ∀ H' dd v, Same H H' → H' dd = some (.xd [((f : Str), v)]) → Rep K H' O v p → E (.ref C) (some dd) H'
/-- how an argument is handed over: to be kept, or to be read alone -/
def ArgR (K : PySem.W.Frag) (H : Hp) (O : Addr → Prop) (b : Bool) (v : V) (d : PyData) : Prop := if b then RepB K H O v d else Rep K H O v d
inductive ArgsR (K : PySem.W.Frag) (H : Hp) (O : Addr → Prop) : List Bool → List V → List PyData → Prop
  | nil : ArgsR K H O [] [] []
  | cons {m ms v vs d ds} : ArgR K H O m v d → ArgsR K H O ms vs ds → ArgsR K H O (m :: ms) (v :: vs) (d :: ds)
theorem ArgsR.len {K H O} : ∀ {ms vs ds}, ArgsR K H O ms vs ds → vs.length = ms.length ∧ ds.length = ms.length
  | _, _, _, .nil => ⟨rfl, rfl⟩
  | _, _, _, .cons _ h => ⟨by simp [h.len.1], by simp [h.len.2]⟩
theorem ArgsR.of {K H O} : ∀ {vs ds}, Reps K H O vs ds → ArgsR K H O (List.replicate ds.length false) vs ds
  | _, _, .nil => .nil
  | _, _, .cons a b => .cons a (ArgsR.of b)
def spD (K : PySem.W.Frag) (mg : Str → Option Value) (ms : List Bool) (f : List PyData → Rs PyData) : Sp := fun vs H Q E => ∃ O ds, OkO O H ∧ ArgsR K H O ms vs ds ∧ match f ds with
  | .ok d => ∀ v H', Same H H' → Rep K H' O v d → Q v H'
  | .error e => XwK K mg E O H e
def outD : Rs Out → Rs PyData
  | .ok (.nx _) => .ok .none
  | .ok (.rt d) => .ok d
  | .ok (.xc n p _) => .error (.exc n p)
  | _ => stuck
/-- the slots at the entry -/
def fzB : PyData → B
  | .list l => .fz l
  | d => .dat d
def argsB : List Bool → List PyData → EnvD
  | m :: ms, d :: ds => (if m then fzB d else .dat d) :: argsB ms ds
  | _, _ => []
def fnD (ms : List Bool) (n : Nat) (body : DS) : List PyData → Rs PyData := fun ds => if ds.length = ms.length then outD (body (argsB ms ds ++ List.replicate (n - ms.length) .un)) else stuck
section
variable {K : PySem.W.Frag} {H : Hp} {O : Addr → Prop}
theorem argsB_len : ∀ {ms ds}, ds.length = ms.length → (argsB ms ds).length = ms.length
  | [], [], _ => rfl
  | m :: ms, d :: ds, h => by
    show (argsB ms ds).length + 1 = ms.length + 1
    rw [argsB_len (by simpa using h)]
theorem argsB_at : ∀ {ms : List Bool} {vs : List V} {ds : List PyData}, ArgsR K H O ms vs ds → ∀ (i : Nat) (b : B), (argsB ms ds)[i]? = some b → ∃ v, vs[i]? = some v ∧
    ((∃ d, b = .dat d ∧ Rep K H O v d) ∨ ∃ ds a xs, b = .fz ds ∧ v = .ref a ∧ SqL K H a xs ∧ Reps K H O xs ds)
  | _, _, _, .nil, i, b, h => by simp [argsB] at h
  | _, _, _, .cons (m := m) (d := d) (v := v) ha hr, 0, b, h => by
    refine ⟨v, rfl, ?_⟩
    have h : (if m then fzB d else .dat d) = b := Option.some.inj h
    cases m with
    | false =>
      rw [if_neg Bool.false_ne_true] at h
      have ha : Rep K H O v d := ha
      exact .inl ⟨d, h.symm, ha⟩
    | true =>
      rw [if_pos rfl] at h
      have ha : RepB K H O v d := ha
      cases d with
      | list l =>
        obtain ⟨a, xs, e, hq, r⟩ := ha.lst
        exact .inr ⟨l, a, xs, h.symm, e, hq, r⟩
      | _ =>
        rcases ha with ha | ⟨_, _, _, _, e, _⟩
        · exact .inl ⟨_, h.symm, ha⟩
        · cases e
  | _, _, _, .cons ha hr, i + 1, b, h => by
    obtain ⟨v, e, q⟩ := argsB_at hr i b h
    exact ⟨v, e, q⟩
/-- the frame at a def's entry -/
theorem Good.start {N : List Str} {ms : List Bool} {vs : List V} {ds : List PyData} (ok : OkO O H) (ha : ArgsR K H O ms vs ds) (hn : ms.length ≤ N.length) :
    Good K ⟨H, O, ok⟩ O (argsB ms ds ++ List.replicate (N.length - ms.length) .un) (L2.start N vs) H := by
  obtain ⟨l1, l2⟩ := ha.len
  have la : (argsB ms ds).length = ms.length := argsB_len l2
  have key : ∀ (i : Nat) (b : B), b ≠ .un → (argsB ms ds ++ List.replicate (N.length - ms.length) B.un)[i]? = some b → (argsB ms ds)[i]? = some b := fun i b hb h => by
    rw [List.getElem?_append] at h
    split at h
    · exact h
    · rw [List.getElem?_replicate] at h
      split at h
      · cases h; exact absurd rfl hb
      · cases h
  have sat : ∀ (i : Nat) (v : V), vs[i]? = some v → (L2.start N vs)[i]? = some (some v) := fun i v h => by
    unfold L2.start
    have hl : i < vs.length := (List.getElem?_eq_some_iff.mp h).1
    rw [List.getElem?_append_left (by simpa using hl), List.getElem?_map, h]
    rfl
  exact
  { len := by
      unfold L2.start
      simp only [List.length_append, List.length_replicate, List.length_map, la, l1]
    same := Same.refl H
    sub := fun _ h => h
    dom := ok
    dat := fun i d h => by
      obtain ⟨v, e, q⟩ := argsB_at ha i _ (key i _ (fun z => by cases z) h)
      rcases q with ⟨d', e2, r⟩ | ⟨_, _, _, e2, _⟩
      · cases e2
        exact ⟨v, sat i v e, r⟩
      · cases e2
    ol := fun i d h => by
      obtain ⟨v, e, q⟩ := argsB_at ha i _ (key i _ (fun z => by cases z) h)
      rcases q with ⟨d', e2, r⟩ | ⟨_, _, _, e2, _⟩ <;> cases e2
    fz := fun i d h => by
      obtain ⟨v, e, q⟩ := argsB_at ha i _ (key i _ (fun z => by cases z) h)
      rcases q with ⟨d', e2, r⟩ | ⟨_, a, xs, e2, e3, hq, r⟩
      · cases e2
      · cases e2
        exact ⟨a, xs, by rw [sat i v e, e3], hq, r⟩
    od := fun i d h => by
      obtain ⟨v, e, q⟩ := argsB_at ha i _ (key i _ (fun z => by cases z) h)
      rcases q with ⟨d', e2, r⟩ | ⟨_, _, _, e2, _⟩ <;> cases e2
    inj := fun i j a ds1 es1 h => by
      obtain ⟨v, e, q⟩ := argsB_at ha i _ (key i _ (fun z => by cases z) h)
      rcases q with ⟨d', e2, r⟩ | ⟨_, _, _, e2, _⟩ <;> cases e2 }
end
section
variable {P : Program} {w : World} {K : PySem.W.Frag} {mg : Str → Option Value} {base : Heap}
/-- what leaves the def as an error -/
abbrev WF (E : XK) : WX := fun cls d _ H => E cls d H
/-- THE RULE for a def: its body keeps its denotation -/
theorem fn_ok {x qual : Str} {st : Stmt} {f : Addr} {fd : FuncData} {N ps : List Str} {k : Nat} {ms : List Bool} {body : DS} (F : Fun K x qual st f fd) (S : FnScope N ps (defScope st)) (hl : ms.length = ps.length) (hn : ms.length ≤ N.length)
    (hbody : ∀ (cdv : Value) (A : Around) (outer : List Env) (s : Shared) (H : Hp) (E : XK) (G : Gd), Room k (A.deeper (envOfC qual (defScope st) s.heap.objs.size f cdv)) →
      PSs (cxOf (L2.CX P w) P w K mg base N qual (defScope st) f cdv A outer s H E) (defBody st) (RS (cxOf (L2.CX P w) P w K mg base N qual (defScope st) f cdv A outer s H E) G (WF E) body)) :
    FnOk P w K mg base (L2.CX P w) (k + 1) f fd ps (spD K mg ms (fnD ms N.length body)) := by
  refine F.okX S (fun vs H Q E h => ?_) (fun cdv A outer s H vs Q E hr h => ?_)
  · obtain ⟨O, ds, _, ha, _⟩ := h
    rw [ha.len.1, hl]
  · obtain ⟨O, ds, ok, ha, h⟩ := h
    refine ⟨_, hbody cdv A outer s H E ⟨H, O, ok⟩ hr, _, O, Good.start ok ha hn, ?_⟩
    unfold fnD at h
    rw [if_pos ha.len.2] at h
    revert h
    cases body (argsB ms ds ++ List.replicate (N.length - ms.length) B.un) with
    | error e => exact fun h => h.elim
    | ok o =>
      cases o with
      | nx ρ => exact fun h σ' H' O' e g => h .non H' g.same .non
      | rt d => exact fun h v H' O' e s r => h v H' s r
      | bk ρ => exact fun h => h.elim
      | ct ρ => exact fun h => h.elim
      | xc n p ρ =>
        cases p with
        | none => exact fun ⟨C, hm, h⟩ => ⟨C, hm, fun σ' H' O' e g => h H' g.same⟩
        | some fp =>
          obtain ⟨fl, p⟩ := fp
          exact fun ⟨C, hm, h⟩ => ⟨C, hm, fun σ' H' O' dd v e g hd r => h H' dd v g.same hd (r.ext (Ext.less g.sub))⟩
end

/-! ### calls of defs -/
section
variable {X : Cx} {W : WX} {e : Expr} {es : List Expr} {pos : Pos} {cs : DL}
/-- the arguments, each in its manner -/
def RAM (X : Cx) (W : WX) (ms : List Bool) (c : DL) : TA := fun σ H Q => ∃ Hb ρ O, GoodE X.K Hb O ρ σ H ∧ Post X W O σ H (c ρ) fun ds => ∀ vs H', Same H H' → ArgsR X.K H' O ms vs ds → Q vs H'
theorem ram_nil : PA X [] (RAM X W [] dNil) := pa_imp pa_nil fun σ H Q ⟨Hb, ρ, O, g, p⟩ => p [] H (Same.refl H) .nil
theorem ArgsR.to {K H H' O} (s : Same H H') : ∀ {ms vs ds}, ArgsR K H O ms vs ds → ArgsR K H' O ms vs ds
  | _, _, _, .nil => .nil
  | _, _, _, .cons (m := m) a b => .cons (by
      cases m with
      | true => exact RepB.same s a
      | false => exact Rep.ext (Ext.same s) a) (b.to s)
theorem RAM.go {Hb ρ O σ H Q} {ms : List Bool} (g : GoodE X.K Hb O ρ σ H) {c : DL} {α : Type} {k : List PyData → Rs α} {P : α → Prop} (p : Post X W O σ H (c ρ >>= k) P)
    (q : ∀ d v H', GoodE X.K Hb O ρ σ H' → Same H H' → ArgsR X.K H' O ms v d → Post X W O σ H' (k d) P → Q v H') : RAM X W ms c σ H Q :=
  ⟨Hb, ρ, O, g, p.bind.imp fun d _ p v H' s r => q d v H' (g.to s) s r (p.to s fun _ z => z)⟩
theorem ram_cons {ms : List Bool} {ca : DE} (ha : PE X e (RE X W ca)) (hr : PA X es (RAM X W ms cs)) (hs : starEach (e :: es) X.env = (false, eval e X.env) :: starEach es X.env := by rfl) : PA X (e :: es) (RAM X W (false :: ms) (dCons ca cs)) :=
  pa_imp (pa_cons ha hr hs) fun σ H Q ⟨Hb, ρ, O, g, p⟩ => RE.go' g p fun d v H1 g1 s1 r1 p1 => RAM.go g1 p1 fun ds vs H2 g2 s2 r2 p2 => p2 _ H2 (s1.trans s2) (.cons (show Rep X.K H2 O v d from r1.ext (Ext.same s2)) r2)
theorem ram_consB {ms : List Bool} {ca : DE} (ha : PE X e (RB X W ca)) (hr : PA X es (RAM X W ms cs)) (hs : starEach (e :: es) X.env = (false, eval e X.env) :: starEach es X.env := by rfl) : PA X (e :: es) (RAM X W (true :: ms) (dCons ca cs)) :=
  pa_imp (pa_cons ha hr hs) fun σ H Q ⟨Hb, ρ, O, g, p⟩ => RB.go g p fun d v H1 g1 s1 r1 p1 => RAM.go g1 p1 fun ds vs H2 g2 s2 r2 p2 => p2 _ H2 (s1.trans s2) (.cons (show RepB X.K H2 O v d from r1.same s2) r2)
theorem XwK.of {O : Addr → Prop} {σ : St} {H H0 : Hp} {e : Err} (s : Same H0 H) (h : XW X W O σ H0 e) : XwK X.K X.mg (fun cls d H => W cls d σ H) O H e := by
  match e, h with
  | .exc n none, ⟨C, hm, h⟩ => exact ⟨C, hm, fun H2 s2 => h H2 (s.trans s2)⟩
  | .exc n (some (f, p)), ⟨C, hm, h⟩ => exact ⟨C, hm, fun H2 dd v s2 => h H2 dd v (s.trans s2)⟩
theorem call_go {ms : List Bool} {f : List PyData → Rs PyData} {σ H Q} (h : RE X W (dCall f cs) σ H Q) : tCallS (spD X.K X.mg ms f) (WE W) (RAM X W ms cs) σ H Q := by
  obtain ⟨Hb, ρ, O, g, p⟩ := h
  refine ⟨Hb, ρ, O, g, Post.imp (Post.bind p) fun ds _ p vs H1 s1 r1 => ⟨O, ds, (g.to s1).dom, r1, ?_⟩⟩
  cases hf : f ds with
  | ok d =>
    rw [hf] at p
    exact fun v H' s r => p v H' (s1.trans s) r
  | error er =>
    rw [hf] at p
    exact XwK.of s1 p
theorem re_call {k : Nat} {fa : Addr} {fd : FuncData} {ps : List Str} {ms : List Bool} {f : List PyData → Rs PyData} {x : Str} {p : Pos} (F : FnOk X.prog X.w X.K X.mg X.base (L2.CX X.prog X.w) k fa fd ps (spD X.K X.mg ms f)) (hr : Room k X.A) (hg : Gl X x) (hm : X.mg x = some (.ref fa)) (hk : PySem.W.keepIn X.K (.ref fa) = true) (hb : Binds X.K fd ps []) (tk : Takes X W)
    (ha : PA X (e :: es) (RAM X W ms cs)) (hdb : (x == ("__debug__" : Str)) = false := by decide) (he : starEach (e :: es) X.env = (false, eval e X.env) :: starEach es X.env := by rfl) (hpl : (backTo pos (starEach es X.env)).any (·.1) = false := by rfl) :
    PE X (.Call (.Name x p) (e :: es) [] pos) (RE X W (dCall f cs)) := pe_imp (pe_callS F hr hg hm hk hb (fun σ => passAt tk σ) ha hdb he hpl) fun σ H Q h => call_go h
theorem re_call0 {k : Nat} {fa : Addr} {fd : FuncData} {ps : List Str} {f : List PyData → Rs PyData} {x : Str} {p : Pos} (F : FnOk X.prog X.w X.K X.mg X.base (L2.CX X.prog X.w) k fa fd ps (spD X.K X.mg [] f)) (hr : Room k X.A) (hg : Gl X x) (hm : X.mg x = some (.ref fa)) (hk : PySem.W.keepIn X.K (.ref fa) = true) (hb : Binds X.K fd ps []) (tk : Takes X W)
    (hdb : (x == ("__debug__" : Str)) = false := by decide) : PE X (.Call (.Name x p) [] [] pos) (RE X W (dCall f dNil)) := by
  have h0 : PE X (.Call (.Name x p) [] [] pos) (tCallS (spD X.K X.mg [] f) (WE W) tNil) := by
    refine ⟨fun pins s σ H Q I h => ?_⟩
    refine wpAny_Call_Name_kw (ld_glob I hg hm ?_ hdb)
    exact PySem.W.callWith_K0 I.kIn hk (run_fnS (us := []) F hr hb (passAt tk σ) I .nil h)
  refine pe_imp h0 fun σ H Q h => ?_
  obtain ⟨Hb, ρ, O, g, p⟩ := h
  refine ⟨O, [], g.dom, .nil, ?_⟩
  have p : Post X W O σ H (f []) fun d => ∀ v H', Same H H' → Rep X.K H' O v d → Q v H' := p
  cases hf : f [] with
  | ok d => rw [hf] at p; exact p
  | error er => rw [hf] at p; exact XwK.of (Same.refl H) p
end
end Den

set_option Elab.async false
set_option linter.all false
set_option maxRecDepth 100000
set_option maxHeartbeats 4000000
namespace Den
open PySem PySem.Spec PyProof.Rows L2

/-! ### items, slices -/
theorem pr_atI {α β : Type} {F : α → β → Prop} {xs : List α} {ys : List β} {i : Int} {y : β} (h : Paired F xs ys) (e : atI ys i = some y) : ∃ x, atI xs i = some x ∧ F x y := by
  unfold atI at e ⊢
  rw [h.length]
  cases q : ixN ys.length i with
  | none => rw [q] at e; cases e
  | some j =>
    rw [q] at e
    exact pr_get h e
def cutD {α : Type} (xs : List α) (lo hi : Option Int) : List α := (xs.drop (HT.sIx xs.length 0 lo)).take (HT.sIx xs.length xs.length hi - HT.sIx xs.length 0 lo)
theorem pr_cut {F : V → PyData → Prop} {xs : List V} {ds : List PyData} (h : Paired F xs ds) (lo hi : Option Int) : Paired F (cutV xs lo hi) (cutD ds lo hi) := by
  unfold cutV cutD
  rw [h.length]
  exact pr_take _ (pr_drop _ h)
def ixD : PyData → PyData → Rs PyData
  | .list xs, .int i => match atI xs i with | some x => .ok x | none => stuck
  | .tuple xs, .int i => match atI xs i with | some x => .ok x | none => stuck
  | .str z, .int i => if okLen z.length then (match atI z.cps.toList i with | some c => .ok (.str ⟨#[c]⟩) | none => stuck) else stuck
  | _, _ => stuck
def slD : PyData → Option Int → Option Int → Rs PyData
  | .list xs, lo, hi => .ok (.list (cutD xs lo hi))
  | .tuple xs, lo, hi => .ok (.tuple (cutD xs lo hi))
  | .str z, lo, hi => if okLen z.length then .ok (.str (cutS z lo hi)) else stuck
  | _, _, _ => stuck
def SlB (X : Cx) (g : PyData → Option Int → Option Int → Rs PyData) : Prop :=
  SlR X fun x lo hi H Q => ∃ O d, OkO O H ∧ RepB X.K H O x d ∧ Give X.K H O (g d lo hi) Q
section
variable {X : Cx}
theorem cut_whole {α : Type} (xs : List α) (lo hi : Option Int) (h : HT.sIx xs.length 0 lo = 0 ∧ HT.sIx xs.length xs.length hi = xs.length) : cutD xs lo hi = xs := by
  unfold cutD
  rw [h.1, h.2, List.drop_zero, Nat.sub_zero, List.take_length]
theorem ix_seqB : IxB X ixD := by
  refine ixr_imp ix_seq fun x y H Q ⟨O, d, e, ok, rx, ry, q⟩ => ?_
  unfold ixD at q
  split at q
  · obtain ⟨a, xs, rfl, h, r⟩ := rx.lst
    obtain rfl := ry.int
    split at q
    · rename_i d e
      obtain ⟨v, e1, r1⟩ := pr_atI r e
      exact .inl ⟨a, xs, _, v, rfl, rfl, h, e1, give_rep q r1⟩
    · exact q.elim
  · obtain ⟨a, xs, rfl, h, r⟩ := rx.tup
    obtain rfl := ry.int
    split at q
    · rename_i d e
      obtain ⟨v, e1, r1⟩ := pr_atI r e
      exact .inr (.inl ⟨a, xs, _, v, rfl, rfl, h, e1, give_rep q r1⟩)
    · exact q.elim
  · obtain rfl := rx.str
    obtain rfl := ry.int
    split at q
    · rename_i hl
      split at q
      · rename_i c e
        exact .inr (.inr ⟨_, _, c, rfl, rfl, of_decide_eq_true hl, e, give_str q⟩)
      · exact q.elim
    · exact q.elim
  · exact q.elim
theorem sl_seqB : SlB X slD := by
  refine slr_imp (sl_list.or (sl_tupA.or sl_str)) fun x lo hi H Q ⟨O, d, ok, rx, q⟩ => ?_
  unfold slD at q
  split at q
  · obtain ⟨a, xs, rfl, h, r⟩ := rx.lst
    exact .inl ⟨a, xs, rfl, h, give_lst q ok (pr_cut r _ _)⟩
  · have rx0 := rx.tupR
    obtain ⟨a, xs, rfl, h, r⟩ := rx.tup
    refine .inr (.inl ⟨a, xs, rfl, h, fun w => ?_, fun _ => give_tup q ok (pr_cut r _ _)⟩)
    rw [r.length] at w
    rw [cut_whole _ _ _ w] at q
    exact give_rep q rx0
  · split at q
    · rename_i hl
      obtain rfl := rx.str
      exact .inr (.inr ⟨_, rfl, of_decide_eq_true hl, give_str q⟩)
    · exact q.elim
  · exact q.elim
end
abbrev DO := EnvD → Rs (Option Int)
def oNone : DO := fun _ => .ok none
def oSome (a : DE) : DO := fun ρ => a ρ >>= fun d => match d with
  | .int i => .ok (some i)
  | _ => stuck
def dSl (f : PyData → Option Int → Option Int → Rs PyData) (a : DE) (lo hi : DO) : DE := fun ρ => a ρ >>= fun x => lo ρ >>= fun l => hi ρ >>= fun u => f x l u
section
variable {X : Cx} {W : WX} {a b e : Expr} {lo hi : Option Expr} {pos : Pos} {ca cb : DE} {cl ch : DO}
def RO (X : Cx) (W : WX) (c : DO) : TO := fun σ H Q => ∃ Hb ρ O, GoodE X.K Hb O ρ σ H ∧ Post X W O σ H (c ρ) fun o => ∀ H', Same H H' → Q o H'
theorem ro_none : PO X none (RO X W oNone) := ⟨fun pins s σ H Q I ⟨Hb, ρ, O, g, p⟩ => po_none.run pins s σ H Q I (p H (Same.refl H))⟩
theorem ro_some (h : PE X e (RE X W ca)) : PO X (some e) (RO X W (oSome ca)) := ⟨fun pins s σ H Q I ⟨Hb, ρ, O, g, p⟩ => (po_some h).run pins s σ H Q I (RE.go' g p fun d v H1 g1 s1 r1 p1 => by
  cases r1 with
  | int i => exact ⟨i, rfl, p1 H1 s1⟩
  | _ => exact False.elim p1)⟩
theorem RO.go {Hb ρ O σ H Q} (g : GoodE X.K Hb O ρ σ H) {c : DO} {α : Type} {k : Option Int → Rs α} {P : α → Prop} (p : Post X W O σ H (c ρ >>= k) P)
    (q : ∀ o H', GoodE X.K Hb O ρ σ H' → Same H H' → Post X W O σ H' (k o) P → Q o H') : RO X W c σ H Q :=
  ⟨Hb, ρ, O, g, p.bind.imp fun d _ p H' s => q d H' (g.to s) s (p.to s fun _ z => z)⟩
theorem re_ix {f : PyData → PyData → Rs PyData} (hr : IxB X f) (hq : ∀ x y, Quiet (f x y)) (ha : PE X a (RB X W ca)) (hb : PE X b (RB X W cb)) (hs : PlainIx b) : PE X (.Subscript a b pos) (RE X W (dOp2 f ca cb)) :=
  pe_imp (pe_ix hr ha hb hs) fun σ H Q ⟨Hb, ρ, O, g, p⟩ => RB.go g p fun d v H1 g1 s1 r1 p1 => RB.go g1 p1 fun e u H2 g2 s2 r2 p2 => ⟨O, d, e, g2.dom, r1.same s2, r2, Post.give (hq d e) (s1.trans s2) p2⟩
theorem re_sl {p2 : Pos} {f : PyData → Option Int → Option Int → Rs PyData} (hr : SlB X f) (hq : ∀ x l u, Quiet (f x l u)) (ha : PE X a (RB X W ca)) (hl : PO X lo (RO X W cl)) (hu : PO X hi (RO X W ch)) : PE X (.Subscript a (.Slice lo hi none p2) pos) (RE X W (dSl f ca cl ch)) :=
  pe_imp (pe_slice hr ha hl hu) fun σ H Q ⟨Hb, ρ, O, g, p⟩ => RB.go g p fun d v H1 g1 s1 r1 p1 => RO.go g1 p1 fun l H2 g2 s2 p2 => RO.go g2 p2 fun u H3 g3 s3 p3 =>
    ⟨O, d, g3.dom, r1.same (s2.trans s3), Post.give (hq d l u) (s1.trans (s2.trans s3)) p3⟩
end
theorem ixD_quiet : ∀ x y, Quiet (ixD x y) := fun x y n p e => by
  unfold ixD at e
  split at e <;> (try split at e) <;> (try split at e) <;> cases e
theorem slD_quiet : ∀ x l u, Quiet (slD x l u) := fun x l u n p e => by
  unfold slD at e
  split at e <;> (try split at e) <;> cases e
end Den

set_option Elab.async false
set_option linter.all false
set_option maxRecDepth 100000
set_option maxHeartbeats 4000000
namespace Den
open PySem PySem.Spec PyProof.Rows L2

/-! ### t[::k] -/
def stepAt (n : Nat) (k : Int) : Int × Nat := ((Builtin.Slice.sliceAdjust none none k (n : Int)).1, Builtin.Slice.slicePlaces (Builtin.Slice.sliceAdjust none none k (n : Int)).1 (Builtin.Slice.sliceAdjust none none k (n : Int)).2 k)
def stepIx (n : Nat) (k : Int) : List Nat := (List.range (stepAt n k).2).map fun (m : Nat) => ((stepAt n k).1 + (m : Int) * k).toNat
def stepL {α : Type} (xs : List α) (k : Int) : List α := (stepIx xs.length k).filterMap (xs[·]?)
theorem pr_pick {α β : Type} {F : α → β → Prop} {xs : List α} {ys : List β} (h : Paired F xs ys) : ∀ is : List Nat, Paired F (is.filterMap (xs[·]?)) (is.filterMap (ys[·]?))
  | [] => .nil
  | i :: is => by
    rw [List.filterMap_cons, List.filterMap_cons]
    cases e : ys[i]? with
    | some y =>
      obtain ⟨x, e1, f⟩ := pr_get h e
      rw [e1]
      exact .cons f (pr_pick h is)
    | none =>
      have : xs[i]? = none := by
        rw [List.getElem?_eq_none_iff] at e ⊢
        rw [h.length]; exact e
      rw [this]
      exact pr_pick h is
theorem pr_step {F : V → PyData → Prop} {xs : List V} {ds : List PyData} (h : Paired F xs ds) (k : Int) : Paired F (stepL xs k) (stepL ds k) := by
  unfold stepL
  rw [h.length]
  exact pr_pick h _
theorem stepL_rev {α : Type} (xs : List α) : stepL xs (-1) = xs.reverse := by
  have e1 : stepAt xs.length (-1) = ((xs.length : Int) - 1, xs.length) := by
    unfold stepAt Builtin.Slice.sliceAdjust Builtin.Slice.slicePlaces
    simp only [show ((-1 : Int) < 0) = True by decide, show ((-1 : Int) > 0) = False by decide, if_true, if_false]
    refine Prod.ext rfl ?_
    show ((if (xs.length : Int) - 1 > -1 then ((xs.length : Int) - 1 - -1 - 1) / - -1 + 1 else 0) : Int).toNat = xs.length
    rw [show (- -1 : Int) = 1 by decide, Int.ediv_one]
    split <;> omega
  unfold stepL stepIx
  rw [e1]
  dsimp only
  have e2 : (List.range xs.length).map (fun (m : Nat) => ((xs.length : Int) - 1 + (m : Int) * -1).toNat) = (List.range xs.length).reverse := by
    rw [← PySem.W.krv_range]
    refine List.map_congr_left fun m hm => ?_
    have := List.mem_range.mp hm
    omega
  rw [e2, List.filterMap_reverse]
  congr 1
  have := PySem.W.krv_all xs.toArray
  simpa using this
section
variable {prog : Program} {w : World} {A : Around} {E : Value → Shared → Prop} {s : Shared}
theorem sliceApplied_step {sl : Addr} {vl vu vs : Value} {k : Int} {n : Nat} {Q : Int × Int × Nat → Shared → Prop} (hs : s.heap.IsSliceOf sl vl vu vs) (pl : IsPart vl none) (pu : IsPart vu none) (ps : IsPart vs (some k)) (h0 : k ≠ 0)
    (h : Q ((stepAt n k).1, k, (stepAt n k).2) s) : wpAny (model prog w) A (Builtin.Slice.sliceApplied (.ref sl) (pure (n : Int))) Q E s := by
  obtain ⟨os, hos, hcs, hds⟩ := id hs
  unfold Builtin.Slice.sliceApplied Builtin.Slice.sliceFields
  refine wpAny_bind (wpAny_bind (wpAny_field hos hds (x := vl) rfl (wpAny_bind (wpAny_field hos hds (x := vu) rfl (wpAny_bind (wpAny_field hos hds (x := vs) rfl (wpAny_pure ?_)))))))
  refine wpAny_bind (HT.slicePart_ ps ?_)
  show wpAny _ _ (if (k == 0) = true then _ else _) _ _ s
  rw [if_neg (by simpa using h0)]
  refine wpAny_bind (HT.slicePart_ pl (wpAny_bind (HT.slicePart_ pu (wpAny_bind (wpAny_pure ?_)))))
  show wpAny _ _ (match Builtin.Slice.sliceAdjust none none k (n : Int) with | (lo, hi) => pure (lo, k, Builtin.Slice.slicePlaces lo hi k)) _ _ s
  exact wpAny_pure h
theorem filterMap_len {α β : Type} (f : α → Option β) : ∀ l : List α, (l.filterMap f).length ≤ l.length := fun l => List.length_filterMap_le f l
theorem stepAt_le (n : Nat) (k : Int) (h0 : k ≠ 0) : (stepAt n k).2 ≤ n := by
  unfold stepAt Builtin.Slice.sliceAdjust Builtin.Slice.slicePlaces
  dsimp only
  by_cases hk : k < 0
  · have hk2 : ¬ k > 0 := by omega
    simp only [hk, hk2, if_true, if_false]
    split
    · have : ((n : Int) - 1 - -1 - 1) / (-k) ≤ (n : Int) - 1 - -1 - 1 := Int.ediv_le_self _ (by omega)
      omega
    · simp
  · have hk2 : k > 0 := by omega
    simp only [hk, hk2, if_true, if_false]
    split
    · have : ((n : Int) - 0 - 1) / k ≤ (n : Int) - 0 - 1 := Int.ediv_le_self _ (by omega)
      omega
    · simp
theorem stepL_len {α : Type} (xs : List α) (k : Int) (h0 : k ≠ 0) : (stepL xs k).length ≤ xs.length := by
  unfold stepL
  refine Nat.le_trans (List.length_filterMap_le _ _) ?_
  unfold stepIx
  rw [List.length_map, List.length_range]
  exact stepAt_le _ k h0
theorem pick_step (xs : Array Value) (i k : Int) (n : Nat) : ((List.range n).filterMap fun (m : Nat) => xs[(i + (m : Int) * k).toNat]?) = ((List.range n).map fun (m : Nat) => (i + (m : Int) * k).toNat).filterMap (xs.toList[·]?) := by
  rw [List.filterMap_map]
  congr 1
  funext m
  simp
theorem getItem_tuple_step {t sl : Addr} {items : Array Value} {vl vu vs : Value} {k : Int} {Q : Value → Shared → Prop} (ht : IsTup s.heap t items) (hs : s.heap.IsSliceOf sl vl vu vs) (pl : IsPart vl none) (pu : IsPart vu none) (ps : IsPart vs (some k)) (h0 : k ≠ 0) (h1 : k ≠ 1)
    (h : Q (.ref s.heap.objs.size) { s with heap := s.heap.push { cls := .type "tuple", data := .seq (stepL items.toList k).toArray } })
    (hsz : items.size ≤ sizeLine) : wpAny (model prog w) A (getItem (.ref t) (.ref sl)) Q E s := by
  have htake : sizeOk (.seq (stepL items.toList k).toArray) := by
    show (stepL items.toList k).toArray.size ≤ sizeLine
    rw [List.size_toArray]
    exact Nat.le_trans (stepL_len _ k h0) (by simpa using hsz)
  obtain ⟨os, hos, hcs, hds⟩ := id hs
  have hTs : s.TypeIs (.ref sl) "slice" := ⟨os, hos, hcs⟩
  unfold getItem
  try with_reducible refine wpAny_holding ?_
  first | refine wpAny_bind (wpAny_pure ?_) | skip
  refine wpAny_bind (wpAny_sequenceKey ht.typeIs (by decide) ?_)
  refine wpAny_bind (wpAny_callSpecial?_slot (name := Str.ofString "__getitem__") ht.typeIs PyProof.Rows.slot_tuple_getitem
    (wpAny_call_entry PyProof.Rows.slot_tuple_getitem ht.typeIs entry_tuple_getitem ?_ (args_tuple_getitem _ _)))
  show wpAny _ _ (Builtin.Tuple.tupleItemsOf (.ref t) >>= _) _ _ s
  refine wpAny_bind (tupleItemsOf_ ht ?_)
  refine wpAny_bind (wpAny_typeOf hTs ?_)
  rw [if_pos (by decide)]
  refine wpAny_bind (sliceApplied_step hs pl pu ps h0 ?_)
  have hno : ¬ (((stepAt items.size k).1 == 0 && k == 1 && (stepAt items.size k).2 == items.size) = true) := by
    intro q
    rw [Bool.and_eq_true, Bool.and_eq_true] at q
    exact h1 (eq_of_beq q.1.2)
  show wpAny _ _ (if ((stepAt items.size k).1 == 0 && k == 1 && (stepAt items.size k).2 == items.size) = true then _ else _) _ _ s
  rw [if_neg hno, pick_step]
  have e : ((List.range (stepAt items.size k).2).map fun (m : Nat) => ((stepAt items.size k).1 + (m : Int) * k).toNat).filterMap (items.toList[·]?) = stepL items.toList k := by
    unfold stepL stepIx
    rw [Array.length_toList]
  rw [e]
  first
    | exact wpAny_bind (m := Builtin.Tuple.tupleExact _) (wpAny_newObj_type (wpAny_pure ⟨_, rfl, wpAny_pure h⟩) htake)
    | exact wpAny_bind (m := Builtin.Tuple.tupleExact _) (wpAny_newObj_type (wpAny_bind (wpAny_pure (wpAny_pure ⟨_, rfl, wpAny_pure h⟩))) htake)
    | exact wpAny_bind (wpAny_bind (m := Builtin.Tuple.tupleExact _) (wpAny_newObj_type (wpAny_pure (wpAny_pure ⟨_, rfl, wpAny_pure h⟩)) htake))
    | exact wpAny_bind (wpAny_bind (m := Builtin.Tuple.tupleExact _) (wpAny_newObj_type (wpAny_pure ⟨_, rfl, wpAny_pure h⟩) htake))
end
/-- what x[::k] of a value is -/
def StR (X : Cx) (r : V → Int → Hp → VK → Prop) : Prop :=
  ∀ (pins : List (Addr × Obj)) (s : Shared) (σ : St) (H : Hp) (x : V) (v vl vu vs : Value) (k : Int) (sl : Addr) (Q : VK), Inv X pins σ H s → RelV x v → s.heap.IsSliceOf sl vl vu vs → IsPart vl none → IsPart vu none → IsPart vs (some k) → r x k H Q →
    ∃ T id, typeLookup (.type T) "__getitem__" = pure (some (.builtin id)) ∧ s.TypeIs v T ∧ wpAny (model X.prog X.w) X.A (getItem v (.ref sl)) (EP X pins σ Q) X.xe s
theorem StR.or {X : Cx} {r r' : V → Int → Hp → VK → Prop} (h : StR X r) (h' : StR X r') : StR X (fun x k H Q => r x k H Q ∨ r' x k H Q) := by
  intro pins s σ H x v vl vu vs k sl Q I rx hs pl pu ps q
  rcases q with q | q
  · exact h pins s σ H x v vl vu vs k sl Q I rx hs pl pu ps q
  · exact h' pins s σ H x v vl vu vs k sl Q I rx hs pl pu ps q
section
variable {X : Cx}
theorem st_tup : StR X fun x k H Q => ∃ a xs, x = .ref a ∧ k ≠ 0 ∧ k ≠ 1 ∧ SqT X.K H a xs ∧ ∀ p, H p = none → Q (.ref p) (upd H p (.tup (stepL xs k))) := by
  rintro pins s σ H x v vl vu vs k sl Q I rx hs pl pu ps ⟨a, xs, rfl, h0, h1, hx, q⟩
  cases rx
  obtain ⟨its, r, ht, hz⟩ := I.tuple hx
  have hlen := r.length
  refine ⟨"tuple", _, PyProof.Rows.slot_tuple_getitem.lookup, ht.typeIs, getItem_tuple_step ht hs pl pu ps h0 h1 ?_ (by rw [List.size_toArray, ← hlen]; exact hz)⟩
  refine ⟨.ref s.heap.objs.size, _, I.laid (t' := s.toks) (o := .tup (stepL xs k)) (fun b ob q => Heap.get?_push_of_some _ q) (Nat.le_refl _) ?_, rfl, q _ (I.hok.fresh (Nat.le_refl _))⟩
  refine ⟨Nat.le_trans (stepL_len xs k h0) hz, stepL its k, ?_, ⟨_, Heap.get?_push_size _ rfl, rfl, _, rfl⟩⟩
  unfold stepL
  rw [hlen]
  exact pr_pick r _
theorem st_lst : StR X fun x k H Q => ∃ a xs, x = .ref a ∧ k = -1 ∧ SqL X.K H a xs ∧ ∀ p, H p = none → Q (.ref p) (upd H p (.lst xs.reverse)) := by
  rintro pins s σ H x v vl vu vs k sl Q I rx hs pl pu ps ⟨a, xs, rfl, rfl, hx, q⟩
  cases rx
  obtain ⟨its, r, ht, hz⟩ := I.list hx
  have hlen := r.length
  refine ⟨"list", _, slot_list_getitem.lookup, ht.isList.typeIs, ?_⟩
  refine wpAny_getItem_list_slice ht.isList hs pl pu ps (by decide) ?_ (by rw [List.size_toArray]; omega)
  rw [PySem.W.krv_pick]
  refine ⟨.ref _, _, I.laid (t' := s.toks) (o := .lst xs.reverse) (fun b ob q => Heap.get?_push_of_some _ q) (Nat.le_refl _) ?_, rfl, q _ (I.hok.fresh (Nat.le_refl _))⟩
  exact ⟨by rw [List.length_reverse]; exact hz, _, 0, r.reverse, Heap.get?_push_size _ rfl⟩
theorem pe_step {r : V → Int → Hp → VK → Prop} {e se : Expr} {te : TE} {ts : TO} {p3 pos : Pos} (hr : StR X r) (he : PE X e te) (hs : PO X (some se) ts) (hop : ∀ v k, ∃ ops, subscripted (.Slice none none (some se) p3) false v k = operate ops (getItem v k) := by intro v k; first | exact ⟨[v, k], by with_unfolding_all rfl⟩ | exact ⟨[k, v], by with_unfolding_all rfl⟩) :
    PE X (.Subscript e (.Slice none none (some se) p3) pos) (fun σ H Q => te σ H fun x H1 => ts σ H1 fun o H2 => ∃ k, o = some k ∧ r x k H2 Q) := by
  refine ⟨fun pins s σ H Q I h => ?_⟩
  refine Subscript_ (thn (he.run pins s σ H _ I h) fun v s1 ⟨x, H1, I1, r1, q1⟩ => ?_)
  refine wpAny_Slice (thn (po_none.run pins s1 σ H1 (fun o H2 => o = none ∧ H2 = H1) I1 ⟨rfl, rfl⟩) fun vl s2 ⟨l, H2, I2, pl, el, e2⟩ => ?_)
  subst el e2
  refine thn (po_none.run pins s2 σ H2 (fun o H3 => o = none ∧ H3 = H2) I2 ⟨rfl, rfl⟩) fun vu s3 ⟨u, H3, I3, pu, eu, e3⟩ => ?_
  subst eu e3
  refine thn (hs.run pins s3 σ H3 _ I3 q1) fun vs s4 ⟨o, H4, I4, ps, k, eo, q4⟩ => ?_
  subst eo
  have I5 : Inv X pins σ H4 { s4 with heap := s4.heap.push { cls := .type "slice", data := .fields #[vl, vu, vs] } } := I4.kept (t' := s4.toks) fun b ob q => Heap.get?_push_of_some _ q
  obtain ⟨T, id, hT, ht, hg⟩ := hr pins { s4 with heap := s4.heap.push { cls := .type "slice", data := .fields #[vl, vu, vs] } } σ H4 x v vl vu vs k s4.heap.objs.size Q I5 r1 (Heap.IsSliceOf.new ..) pl pu ps q4
  show wpAny (model X.prog X.w) X.A (subscriptTail e (.Slice none none (some se) p3) v (.ref s4.heap.objs.size)) (EP X pins σ Q) X.xe { s4 with heap := s4.heap.push { cls := .type "slice", data := .fields #[vl, vu, vs] } }
  obtain ⟨ops, hop⟩ := hop v (.ref s4.heap.objs.size)
  exact tail_any (ops := ops) ht hT hg hop
end
def stD : PyData → Int → Rs PyData
  | .tuple xs, k => if k ≠ 0 ∧ k ≠ 1 then .ok (.tuple (stepL xs k)) else stuck
  | .list xs, k => if k = -1 then .ok (.list xs.reverse) else stuck
  | _, _ => stuck
theorem stD_quiet : ∀ x k, Quiet (stD x k) := fun x k n p e => by
  unfold stD at e
  split at e <;> (try split at e) <;> cases e
def StB (X : Cx) (g : PyData → Int → Rs PyData) : Prop := StR X fun x k H Q => ∃ O d, OkO O H ∧ RepB X.K H O x d ∧ Give X.K H O (g d k) Q
theorem str_imp {X : Cx} {r r' : V → Int → Hp → VK → Prop} (h : StR X r) (i : ∀ x k H Q, r' x k H Q → r x k H Q) : StR X r' := fun pins s σ H x v vl vu vs k sl Q I rx hs pl pu ps q => h pins s σ H x v vl vu vs k sl Q I rx hs pl pu ps (i _ _ _ _ q)
def dSt (f : PyData → Int → Rs PyData) (a : DE) (s : DO) : DE := fun ρ => a ρ >>= fun x => s ρ >>= fun o => match o with
  | some k => f x k
  | none => stuck
section
variable {X : Cx} {W : WX} {a se : Expr} {p3 pos : Pos} {ca : DE} {cs : DO}
theorem st_seqB : StB X stD := by
  refine str_imp (st_tup.or st_lst) fun x k H Q ⟨O, d, ok, rx, q⟩ => ?_
  unfold stD at q
  split at q
  · split at q
    · rename_i h
      obtain ⟨a, xs, rfl, hx, r⟩ := rx.tup
      exact .inl ⟨a, xs, rfl, h.1, h.2, hx, give_tup q ok (pr_step r _)⟩
    · exact q.elim
  · split at q
    · rename_i h
      obtain ⟨a, xs, rfl, hx, r⟩ := rx.lst
      exact .inr ⟨a, xs, rfl, h, hx, give_lst q ok (pr_rev r)⟩
    · exact q.elim
  · exact q.elim
theorem re_st {f : PyData → Int → Rs PyData} (hr : StB X f) (hq : ∀ x k, Quiet (f x k)) (ha : PE X a (RB X W ca)) (hs : PO X (some se) (RO X W cs)) (hop : ∀ v k, ∃ ops, subscripted (.Slice none none (some se) p3) false v k = operate ops (getItem v k) := by intro v k; first | exact ⟨[v, k], by with_unfolding_all rfl⟩ | exact ⟨[k, v], by with_unfolding_all rfl⟩) : PE X (.Subscript a (.Slice none none (some se) p3) pos) (RE X W (dSt f ca cs)) :=
  pe_imp (pe_step hr ha hs hop) fun σ H Q ⟨Hb, ρ, O, g, p⟩ => RB.go g p fun d v H1 g1 s1 r1 p1 => RO.go g1 p1 fun o H2 g2 s2 p2 => by
    cases o with
    | none => exact p2.elim
    | some k => exact ⟨k, rfl, O, d, g2.dom, r1.same s2, Post.give (hq d k) (s1.trans s2) p2⟩
end
end Den

/-
example {X : Cx} {W : WX} {p p2 p3 p4 p5 : Pos} {k} : PE X (.Subscript (.Constant (.int 3) k p) (.Slice none none (some (.UnaryOp .USub (.Constant (.int 1) k p2) p3)) p4) p5) (RE X W (dSt stD (dLit (.int 3)) (oSome (dOp1 negD (dLit (.int 1)))))) :=
  re_st st_seqB stD_quiet (re_b re_int) (ro_some (re_un un_negD sorry re_int))
-/

set_option Elab.async false
set_option linter.all false
set_option maxRecDepth 100000
set_option maxHeartbeats 4000000
namespace Den
open PySem PySem.Spec PyProof.Rows L2

/-! ### never an own error -/
theorem ok_quiet {α : Type} {a : α} : Quiet (.ok a : Rs α) := fun n p e => by cases e
theorem stuck_quiet {α : Type} : Quiet (stuck : Rs α) := fun n p e => by cases e
theorem ite_quiet {α : Type} {c : Prop} [Decidable c] {a b : Rs α} (ha : Quiet a) (hb : Quiet b) : Quiet (if c then a else b) := by split <;> assumption
theorem addD_quiet : ∀ x y, Quiet (addD x y) := fun x y => by unfold addD; split <;> first | exact ok_quiet | exact stuck_quiet | exact ite_quiet ok_quiet stuck_quiet
theorem subD_quiet : ∀ x y, Quiet (subD x y) := fun x y => by unfold subD; split <;> first | exact ok_quiet | exact stuck_quiet | exact ite_quiet ok_quiet stuck_quiet
theorem mulD_quiet : ∀ x y, Quiet (mulD x y) := fun x y => by unfold mulD; split <;> first | exact ok_quiet | exact stuck_quiet | exact ite_quiet ok_quiet stuck_quiet
theorem fdivD_quiet : ∀ x y, Quiet (fdivD x y) := fun x y => by unfold fdivD; split <;> first | exact ok_quiet | exact stuck_quiet | exact ite_quiet ok_quiet stuck_quiet
theorem modD_quiet : ∀ x y, Quiet (modD x y) := fun x y => by unfold modD; split <;> first | exact ok_quiet | exact stuck_quiet | exact ite_quiet ok_quiet stuck_quiet
theorem powD_quiet : ∀ x y, Quiet (powD x y) := fun x y => by unfold powD; split <;> first | exact ok_quiet | exact stuck_quiet | exact ite_quiet ok_quiet stuck_quiet
theorem negD_quiet : ∀ x, Quiet (negD x) := fun x => by unfold negD; split <;> first | exact ok_quiet | exact stuck_quiet | exact ite_quiet ok_quiet stuck_quiet
theorem eqD_quiet : ∀ x y, Quiet (eqD x y) := fun x y => by unfold eqD; exact ite_quiet ok_quiet stuck_quiet
theorem neD_quiet : ∀ x y, Quiet (neD x y) := fun x y => by unfold neD; exact ite_quiet ok_quiet stuck_quiet
theorem ltD_quiet : ∀ x y, Quiet (ltD x y) := fun x y => by unfold ltD; split <;> first | exact ok_quiet | exact stuck_quiet | exact ite_quiet ok_quiet stuck_quiet
theorem leD_quiet : ∀ x y, Quiet (leD x y) := fun x y => by unfold leD; split <;> first | exact ok_quiet | exact stuck_quiet | exact ite_quiet ok_quiet stuck_quiet
theorem gtD_quiet : ∀ x y, Quiet (gtD x y) := fun x y => by unfold gtD; split <;> first | exact ok_quiet | exact stuck_quiet | exact ite_quiet ok_quiet stuck_quiet
theorem geD_quiet : ∀ x y, Quiet (geD x y) := fun x y => by unfold geD; split <;> first | exact ok_quiet | exact stuck_quiet | exact ite_quiet ok_quiet stuck_quiet
theorem inD_quiet : ∀ x y, Quiet (inD x y) := fun x y => by unfold inD; split <;> first | exact ok_quiet | exact stuck_quiet | exact ite_quiet ok_quiet stuck_quiet
theorem notInD_quiet : ∀ x y, Quiet (notInD x y) := fun x y => by
  unfold notInD
  cases h : inD x y with
  | error e =>
    cases e with
    | stuck => exact stuck_quiet
    | exc n p => exact absurd h (inD_quiet x y n p)
  | ok d => cases d <;> first | exact ok_quiet | exact stuck_quiet
theorem isD_quiet : ∀ x y, Quiet (isD x y) := fun x y => by unfold isD; split <;> first | exact ok_quiet | exact stuck_quiet | exact ite_quiet ok_quiet stuck_quiet
theorem isNotD_quiet : ∀ x y, Quiet (isNotD x y) := fun x y => by unfold isNotD; split <;> first | exact ok_quiet | exact stuck_quiet | exact ite_quiet ok_quiet stuck_quiet
theorem lenD_quiet : ∀ x, Quiet (lenD x) := fun x => by unfold lenD; split <;> first | exact ok_quiet | exact stuck_quiet | exact ite_quiet ok_quiet stuck_quiet
theorem absD_quiet : ∀ x, Quiet (absD x) := fun x => by unfold absD; split <;> first | exact ok_quiet | exact stuck_quiet | exact ite_quiet ok_quiet stuck_quiet
theorem intD_quiet : ∀ x, Quiet (intD x) := fun x => by unfold intD; split <;> first | exact ok_quiet | exact stuck_quiet | exact ite_quiet ok_quiet stuck_quiet
theorem sumD_quiet : ∀ x, Quiet (sumD x) := fun x => by unfold sumD; (repeat' split) <;> first | exact ok_quiet | exact stuck_quiet
theorem allD_quiet : ∀ x, Quiet (allD x) := fun x => by unfold allD; (repeat' split) <;> first | exact ok_quiet | exact stuck_quiet
theorem anyD_quiet : ∀ x, Quiet (anyD x) := fun x => by unfold anyD; (repeat' split) <;> first | exact ok_quiet | exact stuck_quiet
theorem tupleD_quiet : ∀ x, Quiet (tupleD x) := fun x => by unfold tupleD; split <;> first | exact ok_quiet | exact stuck_quiet
theorem listD_quiet : ∀ x, Quiet (listD x) := fun x => by unfold listD; split <;> first | exact ok_quiet | exact stuck_quiet

/-! ### products -/
section
variable {X : Cx}
theorem op_mulD : OpD X (binaryOp .Mult) mulD := by
  refine opr_imp (op_mulW.or (op_rep.or op_repT)) fun x y H Q ⟨O, d, e, ok, rx, ry, q⟩ => ?_
  cases rx with
  | int i =>
    cases ry with
    | int j =>
      simp only [mulD] at q
      split at q
      · rename_i h
        exact .inl ⟨i, j, rfl, rfl, h, give_int q⟩
      · exact q.elim
    | _ => exact q.elim
  | @lst a xs ds hx rx =>
    cases ry with
    | int k =>
      simp only [mulD] at q
      split at q
      · rename_i h
        have r1 := RepAll.iff.mp rx
        refine .inr (.inl ⟨a, k, xs, rfl, rfl, hx.1, h.1, h.2.1, by rw [r1.length]; exact h.2.2, give_lst q ok (pr_rep r1 _)⟩)
      · exact q.elim
    | _ => exact q.elim
  | @tup a xs ds hx rx =>
    cases ry with
    | int k =>
      simp only [mulD] at q
      split at q
      · rename_i h
        have r1 := RepAll.iff.mp rx
        exact .inr (.inr ⟨a, k, xs, rfl, rfl, hx.sqt, fun z => h.1 ((pr_nil_iff r1).mp z), h.2.1, h.2.2.1, by rw [r1.length]; exact h.2.2.2, give_tup q ok (pr_rep r1 _)⟩)
      · exact q.elim
    | _ => exact q.elim
  | _ => exact q.elim
end

/-! ### the least, the greatest, sorted: alike data -/
def alikeB (ds : List PyData) : Bool := ds.all fun a => ds.all fun b => PySem.W.alike a b
theorem alikeB_iff {ds : List PyData} (h : alikeB ds = true) : PySem.W.AllAlike ds := fun a ha b hb => by
  unfold alikeB at h
  rw [List.all_eq_true] at h
  have := h a ha
  rw [List.all_eq_true] at this
  exact this b hb
def noNoneB (ds : List PyData) : Bool := ds.all fun a => !noneD a
def sortB (ds : List PyData) : Bool := (ds.all fun a => match a with | .tuple (_ :: _) => true | _ => false) || ds.all fun a => match a with | .none => false | .tuple _ => false | _ => true
theorem sortB_iff {ds : List PyData} (h : sortB ds = true) : PySem.W.Sortable ds := by
  unfold sortB at h
  rw [Bool.or_eq_true, List.all_eq_true, List.all_eq_true] at h
  rcases h with h | h
  · refine .inl fun d hd => ?_
    have := h d hd
    split at this
    · exact ⟨_, _, rfl⟩
    · cases this
  · refine .inr fun d hd => ?_
    have := h d hd
    split at this
    · cases this
    · cases this
    · rename_i h1 h2
      exact ⟨fun e => h1 e, fun xs e => h2 xs e⟩
def minmaxOk (ds : List PyData) : Bool := alikeB ds && noNoneB ds && decide (PyData.depthAll ds ≤ 64)
def minD : List PyData → Rs PyData
  | [.list (x :: xs)] => if minmaxOk (x :: xs) then .ok (PySem.W.minD x xs) else stuck
  | [.tuple (x :: xs)] => if minmaxOk (x :: xs) then .ok (PySem.W.minD x xs) else stuck
  | [.int i, .int j] => .ok (.int (min2 i j))
  | _ => stuck
def maxD : List PyData → Rs PyData
  | [.list (x :: xs)] => if minmaxOk (x :: xs) then .ok (PySem.W.maxD x xs) else stuck
  | [.tuple (x :: xs)] => if minmaxOk (x :: xs) then .ok (PySem.W.maxD x xs) else stuck
  | [.int i, .int j] => .ok (.int (max2 i j))
  | [.int i, .int j, .int k] => .ok (.int (max2 (max2 i j) k))
  | _ => stuck
def sortedL : List PyData → Rs (List PyData)
  | [.list ds] => if alikeB ds && sortB ds && ds.all (fun d => decide (d.depth ≤ 64)) then .ok (ds.mergeSort (PySem.W.dataLe false id)) else stuck
  | _ => stuck
theorem minD_quiet : ∀ x, Quiet (minD x) := fun x => by unfold minD; split <;> first | exact ok_quiet | exact stuck_quiet | exact ite_quiet ok_quiet stuck_quiet
theorem maxD_quiet : ∀ x, Quiet (maxD x) := fun x => by unfold maxD; split <;> first | exact ok_quiet | exact stuck_quiet | exact ite_quiet ok_quiet stuck_quiet
theorem sortedL_quiet : ∀ x, Quiet (sortedL x) := fun x => by unfold sortedL; split <;> first | exact ok_quiet | exact stuck_quiet | exact ite_quiet ok_quiet stuck_quiet
theorem minmaxOk_iff {ds : List PyData} (h : minmaxOk ds = true) : PySem.W.AlikeAll ds ∧ PyData.depthAll ds ≤ 64 := by
  unfold minmaxOk noNoneB at h
  rw [Bool.and_eq_true, Bool.and_eq_true, List.all_eq_true] at h
  exact ⟨⟨alikeB_iff h.1.1, fun x hx e => by
    have := h.1.2 x hx
    rw [e] at this
    exact absurd this (by decide)⟩, of_decide_eq_true h.2⟩
theorem foldl_mem (f : PyData → PyData → PyData) (hf : ∀ a b, f a b = a ∨ f a b = b) : ∀ (xs : List PyData) (x : PyData), xs.foldl f x ∈ x :: xs
  | [], x => by simp
  | y :: ys, x => by
    rw [List.foldl_cons]
    rcases List.mem_cons.mp (foldl_mem f hf ys (f x y)) with e | e
    · rw [e]
      rcases hf x y with e2 | e2 <;> rw [e2] <;> simp
    · exact List.mem_cons_of_mem _ (List.mem_cons_of_mem _ e)
theorem minD_mem (x : PyData) (xs : List PyData) : PySem.W.minD x xs ∈ x :: xs := foldl_mem _ (fun a b => by show (if _ then b else a) = a ∨ (if _ then b else a) = b; split <;> simp) xs x
theorem maxD_mem (x : PyData) (xs : List PyData) : PySem.W.maxD x xs ∈ x :: xs := foldl_mem _ (fun a b => by show (if _ then b else a) = a ∨ (if _ then b else a) = b; split <;> simp) xs x
section
variable {X : Cx}
theorem pick_rep {pins : List (Addr × Obj)} {σ : St} {H : Hp} {s : Shared} {h' : Heap} {O : Addr → Prop} {xs : List V} {ds : List PyData} {its : List Value} {i : Nat} {v : Value} {d : PyData} {bs : List Addr} (I : Inv X pins σ H s) (r : Reps X.K H O xs ds) (rv : Vals xs its)
    (hal : PySem.W.AllAlike ds) (hd : d ∈ ds) (hi : its[i]? = some v) (hr : Reads h' v d bs) (hk : ∀ b o, s.heap.get? b = some o → h'.get? b = some o) : ∃ x, RelV x v ∧ Rep X.K H O x d := by
  obtain ⟨x, hx, rx⟩ := pr_get rv hi
  obtain ⟨e, he, re⟩ := pr_getL r hx
  obtain ⟨as, ra⟩ := Dp.reads I e x v re.dp rx
  have : e = d := PySem.W.alike_unique e d v as bs (hal e (List.mem_of_getElem? he) d hd) (PySem.W.reads_keeps hk ra) hr
  exact ⟨x, rx, this ▸ re⟩
theorem call_minB (hc : X.calm = true) (hu : X.A.units + 65 < cLine) : CallB X (.builtin "min") minD := by
  intro pins s σ H vs us Q I rv ⟨O, ds, ok, r, q⟩
  unfold minD at q
  split at q
  · rename_i x xs
    split at q
    · rename_i h
      obtain ⟨ha, hd⟩ := minmaxOk_iff h
      obtain ⟨v, rfl, r1⟩ := reps1 r
      obtain ⟨a, ys, rfl, hs, r2⟩ := r1.lst
      obtain ⟨its, rits, hl, hz⟩ := I.list hs
      rw [Vals.ref1 rv]
      obtain ⟨as, ra⟩ := Dp.readsAll I _ _ _ (RepAll.dp (RepAll.iff.mpr r2)) rits
      refine PySem.W.min_list_data (x := x) (xs := xs) (I.ok.hd hc) hl.isList (by simpa using ra) ha (by omega) fun i v h' tk bs hi hr hk => ?_
      obtain ⟨z, rz, pz⟩ := pick_rep I r2 rits ha.1 (minD_mem x xs) (by simpa using hi) hr hk
      exact ⟨z, H, I.kept hk, rz, q z H (Same.refl H) pz⟩
    · exact q.elim
  · rename_i x xs
    split at q
    · rename_i h
      obtain ⟨ha, hd⟩ := minmaxOk_iff h
      obtain ⟨v, rfl, r1⟩ := reps1 r
      obtain ⟨a, ys, rfl, hs, r2⟩ := r1.tup
      obtain ⟨its, rits, hl, hz⟩ := I.tuple hs
      rw [Vals.ref1 rv]
      obtain ⟨as, ra⟩ := Dp.readsAll I _ _ _ (RepAll.dp (RepAll.iff.mpr r2)) rits
      refine PySem.W.min_tuple_data (x := x) (xs := xs) (I.ok.hd hc) hl (by simpa using ra) ha (by omega) fun i v h' tk bs hi hr hk => ?_
      obtain ⟨z, rz, pz⟩ := pick_rep I r2 rits ha.1 (minD_mem x xs) (by simpa using hi) hr hk
      exact ⟨z, H, I.kept hk, rz, q z H (Same.refl H) pz⟩
    · exact q.elim
  · obtain ⟨v, w, rfl, r1, r2⟩ := reps2 r
    obtain rfl := r1.int
    obtain rfl := r2.int
    exact call_min2 hc pins s σ H _ us Q I rv ⟨_, _, rfl, give_int q⟩
  · exact q.elim
theorem call_maxB (hc : X.calm = true) (hu : X.A.units + 65 < cLine) : CallB X (.builtin "max") maxD := by
  intro pins s σ H vs us Q I rv ⟨O, ds, ok, r, q⟩
  unfold maxD at q
  split at q
  · rename_i x xs
    split at q
    · rename_i h
      obtain ⟨ha, hd⟩ := minmaxOk_iff h
      obtain ⟨v, rfl, r1⟩ := reps1 r
      obtain ⟨a, ys, rfl, hs, r2⟩ := r1.lst
      obtain ⟨its, rits, hl, hz⟩ := I.list hs
      rw [Vals.ref1 rv]
      obtain ⟨as, ra⟩ := Dp.readsAll I _ _ _ (RepAll.dp (RepAll.iff.mpr r2)) rits
      refine PySem.W.max_list_data (x := x) (xs := xs) (I.ok.hd hc) hl.isList (by simpa using ra) ha (by omega) fun i v h' tk bs hi hr hk => ?_
      obtain ⟨z, rz, pz⟩ := pick_rep I r2 rits ha.1 (maxD_mem x xs) (by simpa using hi) hr hk
      exact ⟨z, H, I.kept hk, rz, q z H (Same.refl H) pz⟩
    · exact q.elim
  · rename_i x xs
    split at q
    · rename_i h
      obtain ⟨ha, hd⟩ := minmaxOk_iff h
      obtain ⟨v, rfl, r1⟩ := reps1 r
      obtain ⟨a, ys, rfl, hs, r2⟩ := r1.tup
      obtain ⟨its, rits, hl, hz⟩ := I.tuple hs
      rw [Vals.ref1 rv]
      obtain ⟨as, ra⟩ := Dp.readsAll I _ _ _ (RepAll.dp (RepAll.iff.mpr r2)) rits
      refine PySem.W.max_tuple_data (x := x) (xs := xs) (I.ok.hd hc) hl (by simpa using ra) ha (by omega) fun i v h' tk bs hi hr hk => ?_
      obtain ⟨z, rz, pz⟩ := pick_rep I r2 rits ha.1 (maxD_mem x xs) (by simpa using hi) hr hk
      exact ⟨z, H, I.kept hk, rz, q z H (Same.refl H) pz⟩
    · exact q.elim
  · obtain ⟨v, w, rfl, r1, r2⟩ := reps2 r
    obtain rfl := r1.int
    obtain rfl := r2.int
    exact call_max2 hc pins s σ H _ us Q I rv ⟨_, _, rfl, give_int q⟩
  · cases r with
    | cons a r =>
      cases r with
      | cons b r =>
        cases r with
        | cons c r =>
          cases r
          obtain rfl := a.int
          obtain rfl := b.int
          obtain rfl := c.int
          cases rv with
          | cons ra rv =>
            cases rv with
            | cons rb rv =>
              cases rv with
              | cons rc rv =>
                cases rv
                obtain ⟨t, rfl⟩ := ra
                obtain ⟨u, rfl⟩ := rb
                obtain ⟨x, rfl⟩ := rc
                refine max_three_ints (I.ok.hd hc) fun h' tk hk => ?_
                have q := give_int q
                refine ⟨_, H, I.kept hk, ?_, q⟩
                unfold max2
                split <;> split <;> simp_all <;> exact ⟨_, rfl⟩
  · exact q.elim
theorem each_of {K : PySem.W.Frag} {H : Hp} {O : Addr → Prop} : ∀ {xs : List V} {ds : List PyData} {its : List Value}, Reps K H O xs ds → Vals xs its → PySem.W.EachIs (fun v d => ∃ x, RelV x v ∧ Rep K H O x d) its ds
  | [], _, _, .nil, .nil => .nil
  | _ :: _, _, _, .cons a b, .cons c d => .cons ⟨_, c, a⟩ (each_of b d)
theorem of_each {K : PySem.W.Frag} {H : Hp} {O : Addr → Prop} : ∀ {its : List Value} {ds : List PyData}, PySem.W.EachIs (fun v d => ∃ x, RelV x v ∧ Rep K H O x d) its ds → ∃ xs, Vals xs its ∧ Reps K H O xs ds
  | _, _, .nil => ⟨[], .nil, .nil⟩
  | _, _, .cons h t => by
    obtain ⟨x, r, p⟩ := h
    obtain ⟨xs, rs, ps⟩ := of_each t
    exact ⟨x :: xs, .cons r rs, .cons p ps⟩
theorem call_sortedL (hu : X.A.units + 66 < cLine) : CallL X (.builtin "sorted") sortedL := by
  intro pins s σ H vs us Q I rv ⟨O, ds, ok, r, q⟩
  unfold sortedL at q
  split at q
  · rename_i ds
    split at q
    · rename_i h
      rw [Bool.and_eq_true, Bool.and_eq_true, List.all_eq_true] at h
      obtain ⟨v, rfl, r1⟩ := reps1 r
      obtain ⟨a, ys, rfl, hs, r2⟩ := r1.lst
      obtain ⟨its, rits, hl, hz⟩ := I.list hs
      rw [Vals.ref1 rv]
      have el : ys.length = ds.length := r2.length
      have eR := each_of r2 rits
      refine PySem.W.sorted_data (enc := id) hl.isList eR (eR.mono fun v d ⟨x, rx, px⟩ => Dp.reads I d x v px.dp rx) (by rw [List.map_id]; exact alikeB_iff h.1.1) (by rw [List.map_id]; exact sortB_iff h.1.2) (by omega)
        (fun b hb => by
          have := of_decide_eq_true (h.2 b hb)
          show X.A.units + 2 + b.depth < cLine
          omega) fun out ho eo => ?_
      obtain ⟨xs, rx, px⟩ := of_each eo
      obtain ⟨ep, he'⟩ := PyProof.Rows.sortedAll_at s.heap its out.toArray
      have hlen : xs.length ≤ sizeLine := by
        have e1 : xs.length = out.length := rx.length
        omega
      have hn : H (s.heap.objs.size + 1) = none := I.hok.fresh (Nat.le_succ _)
      refine ⟨.ref _, upd H (s.heap.objs.size + 1) (.lst xs), I.laid (t' := s.toks) (fun _ _ => PyProof.Rows.sortedAll_old) (Nat.le_succ _) ⟨hlen, out, ep, rx, he'⟩, rfl, giveL_lst q px _ hn⟩
    · exact q.elim
  · exact q.elim
end
end Den

set_option Elab.async false
set_option linter.all false
set_option maxRecDepth 100000
set_option maxHeartbeats 4000000
namespace Den
open PySem PySem.Spec PyProof.Rows L2

/-! ### isinstance(x, T), T a built-in class -/
def tyN : PyData → String
  | .none => "NoneType"
  | .bool _ => "bool"
  | .int _ => "int"
  | .str _ => "str"
  | .list _ => "list"
  | .tuple _ => "tuple"
  | .dict _ => "dict"
def kindN (n : String) : Bool := n == "int" || n == "bool" || n == "str" || n == "list" || n == "tuple" || n == "dict"
theorem kind_ok {n : String} (h : kindN n = true) (d : PyData) : kitB (tyN d) n = some (isinstD n d) := by
  simp only [kindN, Bool.or_eq_true, beq_iff_eq] at h
  rcases h with ((((rfl | rfl) | rfl) | rfl) | rfl) | rfl <;> cases d <;> simp only [tyN, isinstD] <;> decide +kernel
section
variable {X : Cx} {W : WX}
theorem RepB.ty {H : Hp} {O : Addr → Prop} {v : V} {d : PyData} (h : RepB X.K H O v d) : TyX X.K H v (.type (tyN d)) := by
  cases d with
  | none => obtain rfl := h.non; exact .base .non
  | bool b => obtain rfl := h.bl; exact .base (.bl b)
  | int i => obtain rfl := h.int; exact .base (.int i)
  | str i => obtain rfl := h.str; exact .base (.str i)
  | list ds =>
    obtain ⟨a, xs, rfl, (h | ⟨o, h⟩) | ⟨o, its, n, h, hc, _⟩, r⟩ := h.lst
    · exact .base (.lst h)
    · exact .base (.frz h)
    · exact .kList h hc
  | tuple ds =>
    obtain ⟨a, xs, rfl, (h | ⟨o, h⟩) | ⟨o, its, n, h, hc, _⟩, r⟩ := h.tup
    · exact .base (.tup h)
    · exact .fTuple h
    · exact .kTuple h hc
  | dict kvs => exact h.not_dict.elim
theorem re_isi {n : String} {x : Str} {a : Expr} {p p2 pos : Pos} {ca : DE} (hn : kindN n = true) (hg : Gl X "isinstance") (hm : X.mg "isinstance" = none) (ha : PE X a (RB X W ca)) (hg2 : Gl X x) (hm2 : X.mg x = none) (hv : bootBuiltins x = some (.type n)) (hx : x ≠ "__name__" := by decide) (hd : (x == ("__debug__" : Str)) = false := by decide)
    (hs : starEach [a, .Name x p2] X.env = (false, eval a X.env) :: starEach [.Name x p2] X.env := by rfl) (hs2 : starEach [.Name x p2] X.env = [(false, eval (.Name x p2) X.env)] := by rfl) (hpl : (backTo pos (starEach [.Name x p2] X.env)).any (·.1) = false := by rfl) :
    PE X (.Call (.Name "isinstance" p) [a, .Name x p2] [] pos) (RE X W (dIsi n ca)) :=
  pe_imp (pe_callB call_isi hg hm boot_isinstance (pa_cons ha (pa_cons (pe_bltn (v := .ty n) hg2 hm2 hv rfl hx hd) pa_nil hs2) hs) (by decide) (by decide) hs hpl) fun σ H Q ⟨Hb, ρ, O, g, p⟩ =>
    RB.go g p fun d v H1 g1 s1 r1 p1 => ⟨v, .ty n, _, _, _, rfl, .ty n, r1.ty, kit_ty (kind_ok hn d), p1 _ H1 s1 (.bl _)⟩
end

/-! ### sorted(set(xs)), len(set(xs)), xs ints -/
def insU (i : Int) : List Int → List Int
  | [] => [i]
  | j :: js => if i < j then i :: j :: js else if i = j then j :: js else j :: insU i js
def sortU (ns : List Int) : List Int := ns.foldr insU []
theorem mem_insU (i k : Int) : ∀ js, k ∈ insU i js ↔ k = i ∨ k ∈ js
  | [] => by simp [insU]
  | j :: js => by
    unfold insU
    split
    · simp
    · split
      · rename_i h; subst h; simp
      · simp [mem_insU i k js]; constructor <;> rintro (h | h | h) <;> simp [h]
theorem insU_asc (i : Int) : ∀ {js : List Int}, js.Pairwise (· < ·) → (insU i js).Pairwise (· < ·)
  | [], _ => by simp [insU]
  | j :: js, h => by
    unfold insU
    have h' := List.pairwise_cons.mp h
    split
    · rename_i hl
      refine List.pairwise_cons.mpr ⟨fun y hy => ?_, h⟩
      rcases List.mem_cons.mp hy with rfl | hy
      · exact hl
      · have := h'.1 y hy; omega
    · split
      · exact h
      · rename_i h1 h2
        refine List.pairwise_cons.mpr ⟨fun y hy => ?_, insU_asc i h'.2⟩
        rcases (mem_insU i y js).mp hy with rfl | hy
        · omega
        · exact h'.1 y hy
theorem sortU_asc : ∀ ns : List Int, (sortU ns).Pairwise (· < ·)
  | [] => List.Pairwise.nil
  | i :: ns => insU_asc i (sortU_asc ns)
theorem mem_sortU (k : Int) : ∀ ns : List Int, k ∈ sortU ns ↔ k ∈ ns
  | [] => by simp [sortU]
  | i :: ns => by
    show k ∈ insU i (sortU ns) ↔ _
    rw [mem_insU, mem_sortU k ns, List.mem_cons]
theorem asc_ext : ∀ {xs ys : List Int}, xs.Pairwise (· < ·) → ys.Pairwise (· < ·) → (∀ k, k ∈ xs ↔ k ∈ ys) → xs = ys
  | [], [], _, _, _ => rfl
  | [], y :: ys, _, _, h => by have := (h y).mpr (by simp); simp at this
  | x :: xs, [], _, _, h => by have := (h x).mp (by simp); simp at this
  | x :: xs, y :: ys, hx, hy, h => by
    have hx' := List.pairwise_cons.mp hx
    have hy' := List.pairwise_cons.mp hy
    have e : x = y := by
      have h1 := (h x).mp (by simp)
      have h2 := (h y).mpr (by simp)
      rcases List.mem_cons.mp h1 with e | h1
      · exact e
      · rcases List.mem_cons.mp h2 with e | h2
        · exact e.symm
        · have := hx'.1 y h2
          have := hy'.1 x h1
          omega
    subst e
    rw [asc_ext hx'.2 hy'.2 fun k => ?_]
    constructor
    · intro hk
      have := (h k).mp (List.mem_cons_of_mem _ hk)
      rcases List.mem_cons.mp this with e | this
      · subst e; have := hx'.1 k hk; omega
      · exact this
    · intro hk
      have := (h k).mpr (List.mem_cons_of_mem _ hk)
      rcases List.mem_cons.mp this with e | this
      · subst e; have := hy'.1 k hk; omega
      · exact this
set_option maxHeartbeats 8000000 in
theorem call_set_listI {P : Program} {w : World} {A : Around} {E : Value → Shared → Prop} {s : Shared} {l : Addr} {items : Array Value} (ns : List Int) {Q : Value → Shared → Prop} (hh : A.handled = none) (hl : s.heap.IsList l items) (hit : IntsAre items.toList ns) (hb : ns.length + 1 < scanBound)
    (h : ∀ (h' : Heap) (tk c : Nat), SetR w h' s.heap.objs.size (fun j => decide (j ∈ ns)) c → c ≤ ns.length → (∀ b o, s.heap.get? b = some o → h'.get? b = some o) → Q (.ref s.heap.objs.size) { s with heap := h', toks := tk }) :
    wpAny (model P w) A (call (.type "set") [.ref l]) Q E s := by
  have hisz : items.size = ns.length := by
    have q := IntsAre.length hit
    rw [Array.length_toList] at q
    exact q
  obtain ⟨c, tl, hmro⟩ := F.called_set.mro
  have hmade := F.called_set.made
  have hsub := F.called_set.sub
  refine wpAny_call (codeAny_of_tree ?_)
  show wpAny _ _ (callAny (.type "set") _) _ _ _
  refine wpAny_pure ⟨Code.quiet_builtin _ (by decide +kernel), codeAny_builtin F.entry_type_call ?_⟩
  rw [Around.under_plain (weight_type_call_type "set" [.ref l] []) rfl]
  have h1 := F.called_set.notType
  have h2 := F.called_set.canCreate
  have hct := F.typeCall_set_1 (.ref l)
  repeat (any_goals (first | assumption | wp_step))
  refine codeAny_mono (code_set_led1 (.ref l) (E := E) (Q₁ := fun obj s₁ => obj = .ref s.heap.objs.size ∧ s₁ = { s with heap := s.heap.push { cls := .type "set", dict := none, data := .set #[] 0 (.fresh 0 0 (!w.params.followText "set-order")) } }) ⟨rfl, rfl⟩) fun r s₁ hr => ?_
  cases r with
  | error e => exact hr
  | ok fl =>
    cases fl with
    | ret obj =>
      obtain ⟨rfl, rfl⟩ := hr
      have hS : (s.heap.push { cls := .type "set", dict := none, data := .set #[] 0 (.fresh 0 0 (!w.params.followText "set-order")) }).get? s.heap.objs.size = some { cls := .type "set", dict := none, data := .set #[] 0 (.fresh 0 0 (!w.params.followText "set-order")) } := Heap.get?_push_size _ rfl
      have hT : Shared.TypeIs { s with heap := s.heap.push { cls := .type "set", dict := none, data := .set #[] 0 (.fresh 0 0 (!w.params.followText "set-order")) } } (.ref s.heap.objs.size) "set" := ⟨_, hS, rfl⟩
      have hli := F.called_set.init.lookup
      have hbi := F.called_set.init.bind (.ref s.heap.objs.size)
      repeat (any_goals (first | assumption | wp_step))
      refine codeAny_mono (codeAny_call_builtin (R := wants (fun r s₂ => r = .none ∧ ∃ h' tk c, s₂ = { s with heap := h', toks := tk } ∧ SetR w h' s.heap.objs.size (fun j => decide (j ∈ ns)) c ∧ c ≤ ns.length ∧
          (∀ b o, s.heap.get? b = some o → h'.get? b = some o)) E) F.called_set.init.plain F.entry_set_init (check_set_init_1 hT ?_)) fun r₂ s₂ hr₂ => ?_
      · obtain ⟨ol, hol, hcl, nl, hdl⟩ := hl
        obtain ⟨ocls, odict, odata, oslots⟩ := ol
        simp only at hcl hdl
        subst hcl; subst hdl
        have hol' : (s.heap.push { cls := .type "set", dict := none, data := .set #[] 0 (.fresh 0 0 (!w.params.followText "set-order")) }).get? l = some { cls := .type "list", dict := odict, data := .seq items nl, slots := oslots } := Heap.get?_push_of_some _ hol
        have hsls := F.sub_list_set
        have hslf := F.sub_list_frozenset
        have hne : (Value.type "list" == Value.type "dict") = false := by decide
        have hl1 : (s.heap.push { cls := .type "set", dict := none, data := .set #[] 0 (.fresh 0 0 (!w.params.followText "set-order")) }).IsList l items := ⟨_, hol', rfl, nl, rfl⟩
        unfold Builtin.«set.__init__» noKeywords Builtin.Frozenset.updateFrom
        generalize hPI : pyIter = PI
        wp_walk
        subst hPI
        refine wpAny_pyIter_list hl1 ?_
        refine wpAny_bind (wpAny_runValue ?_)
        have hlS : l < s.heap.objs.size := Heap.lt_size hol
        have hh3 : A.in1.in1.in1.handled = none := by simp [hh]
        have hneI : l ≠ (s.heap.push { cls := .type "set", dict := none, data := .set #[] 0 (.fresh 0 0 (!w.params.followText "set-order")) }).objs.size := by
          rw [Heap.size_push]; exact Nat.ne_of_lt (Nat.lt_succ_of_lt hlS)
        have hSf : s.heap.objs.size ∉ [(s.heap.push { cls := .type "set", dict := none, data := .set #[] 0 (.fresh 0 0 (!w.params.followText "set-order")) }).objs.size, l] := by
          rw [Heap.size_push]; simp only [List.mem_cons, List.mem_singleton, List.not_mem_nil, or_false, not_or]
          exact ⟨Nat.ne_of_lt (Nat.lt_succ_self _), Nat.ne_of_gt hlS⟩
        have hval : ∀ (i : Nat) (v : Value), items[i]? = some v → ∃ k t, ns[i]? = some k ∧ v = .int k t := fun i v hv => by
          have hi : i < ns.length := by rw [← hisz]; exact (Array.getElem?_eq_some_iff.mp hv).1
          obtain ⟨t, e⟩ := PyProof.Rows.IntsAre.int_at hit i v (by rw [Array.getElem?_toList]; exact hv)
          refine ⟨ns[i], t, List.getElem?_eq_getElem hi, ?_⟩
          rw [e, List.getD_eq_getElem?_getD, List.getElem?_eq_getElem hi] <;> rfl
        refine set_update_ints ((Walks.list hh3 _ l hneI items).toS) s.heap.objs.size
          hSf ns hisz hb hval (items.size - 0) 0 _ (by omega) (Nat.zero_le _)
          ⟨⟨_, Heap.get?_push_size _ rfl, rfl, rfl⟩, (hl1.push _)⟩ ?hS0 ?hR
        case hS0 =>
          have hget : ((s.heap.push { cls := .type "set", dict := none, data := .set #[] 0 (.fresh 0 0 (!w.params.followText "set-order")) }).push { cls := .type "list_iterator", data := .fields #[.ref l, .int 0 0] }).get? s.heap.objs.size
              = some { cls := .type "set", dict := none, data := .set #[] 0 (.fresh 0 0 (!w.params.followText "set-order")) } := Heap.get?_push_of_some _ hS
          exact ⟨0, Nat.le_refl 0, setR_new_at hget⟩
        case hR =>
          intro s' c' hm hc' hS'
          obtain ⟨h', g2, d', tk', os'⟩ := s'
          have eg : g2 = s.gens := hm.gens
          have ed : d' = s.drawn := hm.drawn
          have eo : os' = s.os := hm.os
          subst eg; subst ed; subst eo
          show wpAny _ _ _ _ _ _
          refine wpAny_pure ?_
          show wpAny _ _ (ret Value.none) _ _ _
          rw [hisz] at hc'
          refine wpAny_pure ⟨rfl, h', tk', c', rfl, hS', hc', fun b o e => ?_⟩
          have hb0 : b < s.heap.objs.size := Heap.lt_size e
          have hb1 : b ≠ s.heap.objs.size := Nat.ne_of_lt hb0
          have hb2 : b ≠ (s.heap.push { cls := .type "set", dict := none, data := .set #[] 0 (.fresh 0 0 (!w.params.followText "set-order")) }).objs.size := by
            rw [Heap.size_push]; exact Nat.ne_of_lt (Nat.lt_succ_of_lt hb0)
          exact hm.heap b o (by simp only [List.mem_cons, List.mem_singleton, List.not_mem_nil, or_false, not_or]; exact ⟨hb1, hb2⟩) (Heap.get?_push_of_some _ (Heap.get?_push_of_some _ e))
      · cases r₂ with
        | error e => exact hr₂
        | ok fl₂ =>
          cases fl₂ with
          | ret r =>
            obtain ⟨rfl, h', tk, c', rfl, hS', hc', hk'⟩ := hr₂
            repeat (any_goals (first | assumption | wp_step))
            exact h _ _ _ hS' hc' hk'
          | _ => exact hr₂.elim
    | _ => exact hr.elim

def intsIn : PyData → Option (List Int)
  | .list ds => intsOf ds
  | .tuple ds => intsOf ds
  | _ => none
def dSortSet (a : DE) : DL := fun ρ => a ρ >>= fun d => match intsIn d with
  | some ns => if ns.length < 64 then .ok ((sortU ns).map .int) else stuck
  | none => stuck
def dLenSet (a : DE) : DE := fun ρ => a ρ >>= fun d => match intsIn d with
  | some ns => if ns.length < 4000 then .ok (.int (sortU ns).length) else stuck
  | none => stuck
theorem pr_ints {K : PySem.W.Frag} {H : Hp} {O : Addr → Prop} : ∀ ns : List Int, Reps K H O (ns.map V.int) (ns.map PyData.int)
  | [] => .nil
  | n :: ns => .cons (.int n) (pr_ints ns)
section
variable {X : Cx} {W : WX} {a : Expr} {ca : DE}
/-- set(x), x a list or a tuple of ints: the set where it stands, for what follows -/
theorem set_ints {pins : List (Addr × Obj)} {σ : St} {H : Hp} {s : Shared} {O : Addr → Prop} {v : V} {u : Value} {d : PyData} {ns : List Int} {Qf : Value → Shared → Prop} (hc : X.calm = true) (I : Inv X pins σ H s) (rv : RelV v u) (r : RepB X.K H O v d) (e : intsIn d = some ns) (hb : ns.length + 1 < scanBound)
    (h : ∀ (h' : Heap) (tk c : Nat), SetR X.w h' s.heap.objs.size (fun j => decide (j ∈ ns)) c → c ≤ ns.length → (∀ b o, s.heap.get? b = some o → h'.get? b = some o) → Qf (.ref s.heap.objs.size) { s with heap := h', toks := tk }) :
    wpAny (model X.prog X.w) X.A (call (.type "set") [u]) Qf X.xe s := by
  cases d with
  | list ds =>
    obtain ⟨b, xs, rfl, hs, rs⟩ := r.lst
    cases rv
    obtain ⟨its, rits, hl, hz⟩ := I.list hs
    obtain rfl := reps_ints rs e
    exact call_set_listI ns (I.ok.hd hc) hl.isList (by simpa using rits.ints) hb h
  | tuple ds =>
    obtain ⟨b, xs, rfl, hs, rs⟩ := r.tup
    cases rv
    obtain ⟨its, rits, hl, hz⟩ := I.tuple hs
    obtain rfl := reps_ints rs e
    exact call_set_tupI ns (I.ok.hd hc) hl (by simpa using rits.ints) hb h
  | _ => cases e
theorem rl_sortSet {p p2 q pos : Pos} (hc : X.calm = true) (hg : Gl X "sorted") (hm : X.mg "sorted" = none) (hg2 : Gl X "set") (hm2 : X.mg "set" = none) (ha : PE X a (RB X W ca))
    (na : starEach [a] X.env = (false, eval a X.env) :: starEach [] X.env := by rfl) : PE X (.Call (.Name "sorted" p) [.Call (.Name "set" p2) [a] [] q] [] pos) (RL X W (dSortSet ca)) := by
  refine ⟨fun pins s σ H Q I ⟨Hb, ρ, O, g, p⟩ => ?_⟩
  refine Call_ (ld_blt I hg hm boot_sorted ?_)
  refine PyProof.Rows.callWith_builtin1 (PyProof.Rows.args_cons ?_ rfl) rfl rfl
  refine Call_ (ld_blt I hg2 hm2 boot_set ?_)
  have key : RB X W ca σ H (fun v H1 => ∃ d ns, Same H H1 ∧ GoodE X.K Hb O ρ σ H1 ∧ RepB X.K H1 O v d ∧ intsIn d = some ns ∧ ns.length < 64 ∧ ∀ a vs H', Same H H' → H a = none → H' a = some (.lst vs) → Reps X.K H' (fun b => O b ∨ b = a) vs ((sortU ns).map .int) → Q (.ref a) H') := by
    refine RB.go g p fun d v H1 g1 s1 r1 p1 => ?_
    split at p1
    · rename_i ns e
      split at p1
      · rename_i hl
        exact ⟨d, ns, s1, g1, r1, e, hl, p1⟩
      · exact p1.elim
    · exact p1.elim
  refine PyProof.Rows.callWith_type1 (PyProof.Rows.args_cons (thn (ha.run pins s σ H _ I key) fun v s1 ⟨x, H1, I1, r1, q1⟩ => PyProof.Rows.args_nil ?_) na) na rfl
  obtain ⟨d, ns, s1', g1, rb, e, hl, q1⟩ := q1
  refine set_ints hc I1 r1 rb e (by unfold scanBound; omega) fun h' tk c R hcl hk => ?_
  refine PyProof.Rows.args_nil ?_
  have I2 : Inv X pins σ H1 { s1 with heap := h', toks := tk } := I1.kept hk
  refine sorted_set R (I2.ok.hd hc) (by omega) fun s' p out cc ks k gg oo hp hgo hi hs hm hlen => ?_
  have e2 : ks = sortU ns := asc_ext hs (sortU_asc ns) fun i => by rw [hm, mem_sortU]; simp
  subst e2
  have hl2 : ((sortU ns).map V.int).length ≤ sizeLine := by rw [List.length_map, hlen, sizeLine_eq]; omega
  have hn : H1 p = none := I2.hok.fresh hp
  have J : Inv X pins σ (upd H1 p (.lst ((sortU ns).map V.int))) { s1 with heap := s'.heap, gens := s'.gens, drawn := s'.drawn, toks := s'.toks } :=
    I2.call (s := { s1 with heap := h', toks := tk }) (ch := []) (Un.laid k hp hn) (I2.hok.laid k hp ⟨hl2, out.toList, cc, vals_of_ints hi, hgo⟩) (by rw [gg]; exact I2.bare) (fun _ z => nomatch z)
  have es : s' = { s1 with heap := s'.heap, gens := s'.gens, drawn := s'.drawn, toks := s'.toks } := by
    obtain ⟨a1, a2, a3, a4, a5⟩ := s'
    have z : a5 = s1.os := oo
    rw [z]
  rw [es]
  exact ⟨.ref p, _, J, rfl, q1 p _ _ (s1'.trans (same_upd hn)) (s1'.free hn) upd_same (pr_ints _)⟩
theorem re_lenSet {p p2 q pos : Pos} (hc : X.calm = true) (hg : Gl X "len") (hm : X.mg "len" = none) (hg2 : Gl X "set") (hm2 : X.mg "set" = none) (ha : PE X a (RB X W ca))
    (na : starEach [a] X.env = (false, eval a X.env) :: starEach [] X.env := by rfl) : PE X (.Call (.Name "len" p) [.Call (.Name "set" p2) [a] [] q] [] pos) (RE X W (dLenSet ca)) := by
  refine ⟨fun pins s σ H Q I ⟨Hb, ρ, O, g, p⟩ => ?_⟩
  refine Call_ (ld_blt I hg hm boot_len ?_)
  refine PyProof.Rows.callWith_builtin1 (PyProof.Rows.args_cons ?_ rfl) rfl rfl
  refine Call_ (ld_blt I hg2 hm2 boot_set ?_)
  have key : RB X W ca σ H (fun v H1 => ∃ d ns, Same H H1 ∧ GoodE X.K Hb O ρ σ H1 ∧ RepB X.K H1 O v d ∧ intsIn d = some ns ∧ ns.length < 4000 ∧ ∀ v H', Same H H' → Rep X.K H' O v (.int (sortU ns).length) → Q v H') := by
    refine RB.go g p fun d v H1 g1 s1 r1 p1 => ?_
    split at p1
    · rename_i ns e
      split at p1
      · rename_i hl
        exact ⟨d, ns, s1, g1, r1, e, hl, p1⟩
      · exact p1.elim
    · exact p1.elim
  refine PyProof.Rows.callWith_type1 (PyProof.Rows.args_cons (thn (ha.run pins s σ H _ I key) fun v s1 ⟨x, H1, I1, r1, q1⟩ => PyProof.Rows.args_nil ?_) na) na rfl
  obtain ⟨d, ns, s1', g1, rb, e, hl, q1⟩ := q1
  refine set_ints hc I1 r1 rb e (by unfold scanBound; omega) fun h' tk c R hcl hk => ?_
  refine PyProof.Rows.args_nil ?_
  have I2 : Inv X pins σ H1 { s1 with heap := h', toks := tk } := I1.kept hk
  obtain ⟨o, es, ep, t, ho, hex, hd, hgd, nd, hmem, hb, hf, hn, _⟩ := R
  have hlen : c = (sortU ns).length := by
    have pm : (es.toList.map keyOf).Perm (sortU ns) := (List.perm_ext_iff_of_nodup nd ((sortU_asc ns).imp (fun h => by omega))).mpr fun k => by
      rw [← hmem k, mem_sortU]; simp
    have := pm.length_eq
    rw [List.length_map, Array.length_toList, hn] at this
    exact this
  refine call_len_set ho hex hd hf (by rw [hn] <;> omega) ⟨.int (sortU ns).length, H1, I2.tok _, ⟨_, by rw [hn, hlen]⟩, q1 _ H1 s1' (.int _)⟩
end
end Den

set_option Elab.async false
set_option linter.all false
set_option maxRecDepth 100000
set_option maxHeartbeats 4000000
namespace Den
open PySem PySem.Spec PyProof.Rows L2

/-! ### zip of two lists, of two tuples -/
def zipP (xs ys : List PyData) : List PyData := (xs.zip ys).map fun p => .tuple [p.1, p.2]
def zipD : List PyData → Rs (List PyData)
  | [.list xs, .list ys] => .ok (zipP xs ys)
  | [.tuple xs, .tuple ys] => .ok (zipP xs ys)
  | _ => stuck
theorem zip_at {xs ys : List PyData} {i : Nat} {d : PyData} (h : (zipP xs ys)[i]? = some d) : ∃ a b, xs[i]? = some a ∧ ys[i]? = some b ∧ d = .tuple [a, b] := by
  unfold zipP at h
  rw [List.getElem?_map, Option.map_eq_some_iff] at h
  obtain ⟨p, hp, rfl⟩ := h
  rw [List.getElem?_zip_eq_some] at hp
  exact ⟨p.1, p.2, hp.1, hp.2, rfl⟩
theorem zip_lt {xs ys : List PyData} {i : Nat} (h : i < (zipP xs ys).length) : i < xs.length ∧ i < ys.length := by
  unfold zipP at h
  rw [List.length_map, List.length_zip] at h
  omega
theorem pair_new {K : PySem.W.Frag} {H : Hp} {O : Addr → Prop} {T : Addr} {x y : V} {a b : PyData} (ok : OkO O H) (hT : H T = none) (ra : Rep K H O x a) (rb : Rep K H O y b) : Same H (upd H T (.tup [x, y])) ∧ Rep K (upd H T (.tup [x, y])) O (.ref T) (.tuple [a, b]) :=
  ⟨same_upd hT, .tup (.inl ⟨.inl upd_same, no_own ok hT⟩) (RepAll.iff.mpr (.cons (ra.ext (Ext.same (same_upd hT))) (.cons (rb.ext (Ext.same (same_upd hT))) .nil)))⟩
theorem src_zipL {K : PySem.W.Frag} {a b : Addr} {xs ys : List V} {ds es : List PyData} {P : Hp → (Addr → Prop) → Prop} (h : ∀ H O, P H O → (SqL K H a xs ∧ Reps K H O xs ds) ∧ SqL K H b ys ∧ Reps K H O ys es) : Src K (Itz K a b) P (zipP ds es) where
  goes := fun i H O hi p => by
    obtain ⟨⟨q, r⟩, q', r'⟩ := h H O p
    obtain ⟨h1, h2⟩ := zip_lt hi
    have l1 : i < xs.length := by rw [r.length]; exact h1
    have l2 : i < ys.length := by rw [r'.length]; exact h2
    exact ⟨xs, ys, xs[i], ys[i], q, q', List.getElem?_eq_getElem l1, List.getElem?_eq_getElem l2⟩
  stops := fun H O p => by
    obtain ⟨⟨q, r⟩, q', r'⟩ := h H O p
    refine ⟨xs, ys, q, q', ?_⟩
    unfold zipP
    rw [List.length_map, List.length_zip, r.length, r'.length]
    omega
  yields := fun i H O v H' d hd p ok hy => by
    obtain ⟨⟨q, r⟩, q', r'⟩ := h H O p
    obtain ⟨T, x, y, rfl, hT, rfl, h1, h2⟩ := hy
    obtain ⟨da, db, e1, e2, rfl⟩ := zip_at hd
    obtain ⟨x', ex, rx⟩ := pr_get r e1
    obtain ⟨y', ey, ry⟩ := pr_get r' e2
    have := h1 xs q
    rw [ex] at this; cases this
    have := h2 ys q'
    rw [ey] at this; cases this
    exact pair_new ok hT rx ry
theorem src_zipT {K : PySem.W.Frag} {a b : Addr} {xs ys : List V} {ds es : List PyData} {P : Hp → (Addr → Prop) → Prop} (h : ∀ H O, P H O → (SqT K H a xs ∧ Reps K H O xs ds) ∧ SqT K H b ys ∧ Reps K H O ys es) : Src K (RZ.ItzT K a b) P (zipP ds es) where
  goes := fun i H O hi p => by
    obtain ⟨⟨q, r⟩, q', r'⟩ := h H O p
    obtain ⟨h1, h2⟩ := zip_lt hi
    have l1 : i < xs.length := by rw [r.length]; exact h1
    have l2 : i < ys.length := by rw [r'.length]; exact h2
    exact ⟨xs, ys, xs[i], ys[i], q, q', List.getElem?_eq_getElem l1, List.getElem?_eq_getElem l2⟩
  stops := fun H O p => by
    obtain ⟨⟨q, r⟩, q', r'⟩ := h H O p
    refine ⟨xs, ys, q, q', ?_⟩
    unfold zipP
    rw [List.length_map, List.length_zip, r.length, r'.length]
    omega
  yields := fun i H O v H' d hd p ok hy => by
    obtain ⟨⟨q, r⟩, q', r'⟩ := h H O p
    obtain ⟨T, x, y, rfl, hT, rfl, h1, h2⟩ := hy
    obtain ⟨da, db, e1, e2, rfl⟩ := zip_at hd
    obtain ⟨x', ex, rx⟩ := pr_get r e1
    obtain ⟨y', ey, ry⟩ := pr_get r' e2
    have := h1 xs q
    rw [ex] at this; cases this
    have := h2 ys q'
    rw [ey] at this; cases this
    exact pair_new ok hT rx ry
theorem reps2' {K : PySem.W.Frag} {H : Hp} {O : Addr → Prop} {vs : List V} {d e : PyData} (h : Paired (Rep K H O) vs [d, e]) : ∃ v w, vs = [v, w] ∧ Rep K H O v d ∧ Rep K H O w e := by
  cases h with
  | cons a b =>
    cases b with
    | cons b c => cases c; exact ⟨_, _, rfl, a, b⟩
section
variable {X : Cx} {W : WX} {e e2 : Expr} {p pos tpos : Pos} {elts : List Expr} {kk : Nat} {cs : DL}
theorem ri_zip (hg : Gl X "zip") (hm : X.mg "zip" = none) (ha : PA X [e, e2] (RA X W cs))
    (hs : starEach [e, e2] X.env = (false, eval e X.env) :: starEach [e2] X.env := by rfl) (hpl : (backTo pos (starEach [e2] X.env)).any (·.1) = false := by rfl) :
    PI X (.Tuple elts kk tpos) (.Call (.Name "zip" p) [e, e2] [] pos) (RI X W (dCallL zipD cs)) :=
  pi_imp (RZ.pi_zipA hg hm ha hs hpl) fun σ H R ⟨Hb, ρ, O, g, q⟩ => RA.go g q fun ds vs H1 g1 s1 r1 p1 => by
    unfold zipD at p1
    split at p1
    · obtain ⟨v, w, rfl, r, r'⟩ := reps2' r1
      cases r with
      | @lst a xs _ h r =>
        cases r' with
        | @lst b ys _ h' r' =>
          exact ⟨a, b, xs, ys, rfl, .inl ⟨h.sql, h'.sql, p1 _ (fun H' O' => (LAt H' O' a xs ∧ Reps X.K H' O' xs _) ∧ LAt H' O' b ys ∧ Reps X.K H' O' ys _) H1 s1 (src_zipL fun H' O' z => ⟨⟨z.1.1.sql, z.1.2⟩, z.2.1.sql, z.2.2⟩)
            (fun H O H' O' e z => ⟨⟨z.1.1.ext e, z.1.2.ext e⟩, z.2.1.ext e, z.2.2.ext e⟩) ⟨⟨h, RepAll.iff.mp r⟩, h', RepAll.iff.mp r'⟩⟩⟩
    · obtain ⟨v, w, rfl, r, r'⟩ := reps2' r1
      cases r with
      | @tup a xs _ h r =>
        cases r' with
        | @tup b ys _ h' r' =>
          exact ⟨a, b, xs, ys, rfl, .inr ⟨h.sqt, h'.sqt, p1 _ (fun H' O' => (TAt X.K H' O' a xs ∧ Reps X.K H' O' xs _) ∧ TAt X.K H' O' b ys ∧ Reps X.K H' O' ys _) H1 s1 (src_zipT fun H' O' z => ⟨⟨z.1.1.sqt, z.1.2⟩, z.2.1.sqt, z.2.2⟩)
            (fun H O H' O' e z => ⟨⟨z.1.1.ext e, z.1.2.ext e⟩, z.2.1.ext e, z.2.2.ext e⟩) ⟨⟨h, RepAll.iff.mp r⟩, h', RepAll.iff.mp r'⟩⟩⟩
    · exact p1.elim
end

/-! ### dicts that are made -/
def keyD : PyData → Option Key
  | .int i => some (.inl i)
  | .str x => some (.inr x)
  | _ => none
def unKey : Key → PyData
  | .inl i => .int i
  | .inr x => .str x
def putD (kvs : List (Key × PyData)) (k : Key) (v : PyData) : List (Key × PyData) :=
  if (kvs.any fun kv => decide (kv.1 = k)) = true then kvs.map (fun kv => if kv.1 = k then (kv.1, v) else kv) else kvs ++ [(k, v)]
abbrev DD := EnvD → Rs (List (Key × PyData))
def KV (K : PySem.W.Frag) (H : Hp) (O : Addr → Prop) (p : Key × V) (q : Key × PyData) : Prop := p.1 = q.1 ∧ Rep K H O p.2 q.2
abbrev KVs (K : PySem.W.Frag) (H : Hp) (O : Addr → Prop) : List (Key × V) → List (Key × PyData) → Prop := Paired (KV K H O)
theorem KVs.ext {K : PySem.W.Frag} {H H' : Hp} {O O' : Addr → Prop} {ps qs} (e : Ext H O H' O') (h : KVs K H O ps qs) : KVs K H' O' ps qs := Paired.mono (fun _ _ r => ⟨r.1, r.2.ext e⟩) h
theorem kvs_any {K : PySem.W.Frag} {H : Hp} {O : Addr → Prop} (k : Key) : ∀ {ps qs}, KVs K H O ps qs → (ps.any fun kv => decide (kv.1 = k)) = (qs.any fun kv => decide (kv.1 = k))
  | _, _, .nil => rfl
  | _, _, .cons a b => by
    rw [List.any_cons, List.any_cons, kvs_any k b, a.1]
theorem kvs_map {K : PySem.W.Frag} {H : Hp} {O : Addr → Prop} {k : Key} {x : V} {d : PyData} (r : Rep K H O x d) : ∀ {ps qs}, KVs K H O ps qs → KVs K H O (ps.map fun kv => if kv.1 = k then (kv.1, x) else kv) (qs.map fun kv => if kv.1 = k then (kv.1, d) else kv)
  | _, _, .nil => .nil
  | p :: ps, q :: qs, .cons a b => by
    rw [List.map_cons, List.map_cons]
    refine .cons ?_ (kvs_map r b)
    rw [a.1]
    split
    · exact ⟨rfl, r⟩
    · exact ⟨a.1, a.2⟩
theorem kvs_put {K : PySem.W.Frag} {H : Hp} {O : Addr → Prop} {k : Key} {x : V} {d : PyData} (r : Rep K H O x d) {ps qs} (h : KVs K H O ps qs) : KVs K H O (putK ps k x) (putD qs k d) := by
  unfold putK putD
  rw [kvs_any k h]
  split
  · exact kvs_map r h
  · exact pr_append h (.cons ⟨rfl, r⟩ .nil)
theorem keyD_kV {K : PySem.W.Frag} {H : Hp} {O : Addr → Prop} {v : V} {d : PyData} {k : Key} (e : keyD d = some k) (r : Rep K H O v d) : v = kV k := by
  cases r with
  | int i => cases e; rfl
  | str x => cases e; rfl
  | _ => cases e
def compD (t : Tg) (tt : DT) (ek ev : DE) (ρ : EnvD) : List (Key × PyData) → List PyData → Rs (List (Key × PyData))
  | acc, [] => .ok acc
  | acc, d :: ds => t.d ρ d >>= fun ρ1 => tt ρ1 >>= fun b => if b then ek ρ1 >>= fun y => ev ρ1 >>= fun z => (match keyD y with
      | some k => if acc.length < sizeLine then compD t tt ek ev ρ (putD acc k z) ds else stuck
      | none => stuck) else compD t tt ek ev ρ acc ds
def dDc (it : DL) (vs : List Nat) (t : Tg) (tt : DT) (ek ev : DE) : DD := fun ρ => it ρ >>= fun ds => if t.within vs then noExc (compD t tt ek ev (wipeD ρ vs) [] ds) else stuck
section
variable {X : Cx} {W : WX}
/-- a new dict -/
def RDc (X : Cx) (W : WX) (c : DD) : TE := fun σ H Q => ∃ Hb ρ O, GoodE X.K Hb O ρ σ H ∧ Post X W O σ H (c ρ) fun ds => ∀ a kvs H', Same H H' → H a = none → H' a = some (.dK kvs) → KVs X.K H' (fun b => O b ∨ b = a) kvs ds → Q (.ref a) H'
theorem GoodE.beginD {K : PySem.W.Frag} {Hb : Hp} {O : Addr → Prop} {ρ : EnvD} {σ : St} {H1 : Hp} {D : Addr} {o : HO} (g : GoodE K Hb O ρ σ H1) (hD : H1 D = none) : GoodE K H1 (fun b => O b ∨ b = D) ρ σ (upd H1 D o) :=
  (show GoodE K H1 O ρ σ H1 from ⟨g.len, Same.refl H1, g.dom, g.dat, fun i ds h => (g.bor i ds h).elim fun a h => h.elim fun vs h => ⟨a, vs, h.1, g.same.seq h.2.1, h.2.2⟩⟩).wider (same_upd hD) (ext_new hD) fun a ha => by
    rcases ha with ha | rfl
    · obtain ⟨o, e1⟩ := g.dom a ha
      exact ⟨o, same_upd hD a o e1⟩
    · exact ⟨_, upd_same⟩
variable {it : DL} {vs : List Nat} {t : Tg} {tt : DT} {ek ev : DE}
theorem dc_go {σ H Q} (h : RDc X W (dDc it vs t tt ek ev) σ H Q) : tDc (RIW X W it) (t.g X.K) (RT X W0 tt) (RE X W0 ek) (RE X W0 ev) vs σ H Q := by
  obtain ⟨Hb, ρ, O, g, p⟩ := h
  refine ⟨Hb, ρ, O, g, p.bind.imp fun ds _ p J P H1 s1 S wk hP => ?_⟩
  intro D hD
  split at p
  · rename_i hw
    cases hr : compD t tt ek ev (wipeD ρ vs) [] ds with
    | error er => rw [hr] at p; exact p.elim
    | ok out =>
      rw [hr] at p
      have p : ∀ a kvs H', Same H H' → H a = none → H' a = some (.dK kvs) → KVs X.K H' (fun b => O b ∨ b = a) kvs out → Q (.ref a) H' := p
      have oo : ∀ a, (O a ∨ a = D) → O a ∨ H1 a = none := fun a h => h.elim .inl fun e => .inr (e ▸ hD)
      have gb := (g.to s1).beginD (o := .dK []) hD
      let Pv : Nat → Hp → Prop := fun i H' => ∃ acc dacc, H' D = some (.dK acc) ∧ KVs X.K H' (fun b => O b ∨ b = D) acc dacc ∧ Same H1 H' ∧ compD t tt ek ev (wipeD ρ vs) dacc (ds.drop i) = .ok out
      refine ⟨fun i m H => m = ds.length - i ∧ i ≤ ds.length ∧ Pv i H, ⟨ds.length, by simp, Nat.zero_le _, [], [], upd_same, .nil, same_upd hD, by simpa using hr⟩, ?_⟩
      rintro i m H2 ⟨rfl, hi, acc, dacc, h1, r1, s', hc1⟩
      have p2 := wk H1 O H2 _ s' oo hP
      by_cases hlt : i < ds.length
      · refine .inr ⟨S.goes i H2 _ hlt p2, Pv (i + 1), fun H' p' => ⟨ds.length - (i + 1), by omega, rfl, hlt, p'⟩, fun x H3 hy => ?_⟩
        obtain ⟨d, hd, hdrop⟩ := drop_cons hlt
        have ex : Ext (upd H1 D (.dK [])) (fun b => O b ∨ b = D) H2 (fun b => O b ∨ b = D) := ⟨fun a o h n => s' a o (by rw [upd_ne (fun z => n (.inr z))] at h; exact h), fun a h => .inl h, fun a o h => by
          by_cases z : a = D
          · exact ⟨_, by rw [z]; exact h1⟩
          · rw [upd_ne z] at h; exact ⟨o, s' a o h⟩⟩
        have g0 : GoodE X.K H1 (fun b => O b ∨ b = D) ρ σ H2 := gb.wider s' ex fun a h => by
          obtain ⟨o, q⟩ := gb.dom a h
          exact ex.there a o q
        obtain ⟨s3, rx⟩ := S.yields i H2 _ x H3 d hd p2 g0.dom hy
        rw [hdrop, compD] at hc1
        obtain ⟨ρ1, ht, hc1⟩ := ok_bind hc1
        obtain ⟨b, htt, hc1⟩ := ok_bind hc1
        refine Tg.go GoodE.setOk t ((g0.to s3).wipe vs) rx ht fun σ2 g3 hwp => ⟨by rw [hwp vs hw, wipe_wipe], H1, ρ1, _, g3, Post.w0 htt fun H4 s4 => ?_⟩
        cases b with
        | false => exact ⟨acc, dacc, s4 _ _ (s3 _ _ h1), r1.ext (Ext.same (s3.trans s4)), s'.trans (s3.trans s4), hc1⟩
        | true =>
          obtain ⟨y, hy1, hc1⟩ := ok_bind hc1
          obtain ⟨z, hz1, hc1⟩ := ok_bind hc1
          refine ⟨H1, ρ1, _, g3.to s4, Post.w0 hy1 fun yv H5 s5 ry => ⟨H1, ρ1, _, (g3.to s4).to s5, Post.w0 hz1 fun zv H6 s6 rz => ?_⟩⟩
          split at hc1
          · rename_i k ek'
            split at hc1
            · rename_i hl
              have sall := s3.trans (s4.trans (s5.trans s6))
              have hO : (fun b => O b ∨ b = D) D := .inr rfl
              have hD6 : H6 D = some (.dK acc) := sall _ _ h1
              refine ⟨acc, k, keyD_kV ek' ry, hD6, by rw [r1.length]; exact hl, putK acc k zv, putD dacc k z, upd_same, ?_, ?_, hc1⟩
              · exact kvs_put (rz.ext (ext_app hO)) ((r1.ext (Ext.same sall)).ext (ext_app hO))
              · intro a o h
                rw [upd_ne (ne_of_none h hD)]
                exact sall a o (s' a o h)
            · cases hc1
          · cases hc1
      · have ei : i = ds.length := by omega
        subst ei
        rw [List.drop_length, compD] at hc1
        cases hc1
        exact .inl ⟨S.stops H2 _ p2, p D acc H2 (s1.trans s') (s1.free hD) h1 r1⟩
  · exact p.elim
theorem rd_dc {kx vx tg iter : Expr} {ifs : List Expr} {scope : Scope} {own : List (Str × Nat)} {pos : Pos} (hc : X.calm = true) (hN : X.N.Nodup) (hi : PI X tg iter (RIW X W it)) (ok : BlkOk X.N X.env.scope scope own)
    (hg : ∀ (s : Shared) (H : Hp) (C : Addr) (cl : List (Str × Addr)) (fp : List Addr), PG (X.blk s H scope (compEnvC scope cl C X.env) fp) tg (t.g X.K)) (ht : ∀ (s : Shared) (H : Hp) (C : Addr) (cl : List (Str × Addr)) (fp : List Addr), PTs (X.blk s H scope (compEnvC scope cl C X.env) fp) ifs (RT (X.blk s H scope (compEnvC scope cl C X.env) fp) W0 tt))
    (hk : ∀ (s : Shared) (H : Hp) (C : Addr) (cl : List (Str × Addr)) (fp : List Addr), PE (X.blk s H scope (compEnvC scope cl C X.env) fp) kx (RE (X.blk s H scope (compEnvC scope cl C X.env) fp) W0 ek))
    (he : ∀ (s : Shared) (H : Hp) (C : Addr) (cl : List (Str × Addr)) (fp : List Addr), PE (X.blk s H scope (compEnvC scope cl C X.env) fp) vx (RE (X.blk s H scope (compEnvC scope cl C X.env) fp) W0 ev)) (hs : ∀ x, foldedSetIterable iter X.env x = pure x := by intro _; rfl) :
    PE X (.DictComp kx vx [⟨tg, iter, ifs, 0⟩] scope pos) (RDc X W (dDc it (own.map (·.2)) t tt ek ev)) := pe_imp (pe_dc hc hN hi ok hg ht hk he hs) fun σ H Q h => dc_go h
def dLenDc (c : DD) : DE := fun ρ => c ρ >>= fun kvs => .ok (.int kvs.length)
theorem re_lenDc {e : Expr} {p pos : Pos} {c : DD} (hg : Gl X "len") (hm : X.mg "len" = none) (he : PE X e (RDc X W c)) (hs : starEach [e] X.env = (false, eval e X.env) :: starEach [] X.env := by rfl) : PE X (.Call (.Name "len" p) [e] [] pos) (RE X W (dLenDc c)) :=
  pe_imp (pe_callB call_lenD hg hm boot_len (pa_cons he pa_nil hs) (by decide) (by decide) hs rfl) fun σ H Q ⟨Hb, ρ, O, g, p⟩ =>
    ⟨Hb, ρ, O, g, p.bind.imp fun ds _ p a kvs H' s n h r => ⟨a, kvs, rfl, h, by rw [r.length]; exact p _ H' s (.int _)⟩⟩
end

/-! ### a list of one's own changes -/
section
variable {K : PySem.W.Frag} {G : Gd} {O : Addr → Prop} {ρ : EnvD} {σ : St} {H : Hp}
theorem Good.updL (g : Good K G O ρ σ H) {i : Nat} {ds ds' : List PyData} {a : Addr} {vs' : List V} (hi : ρ[i]? = some (.ol ds)) (hs : σ[i]? = some (some (.ref a))) (hO : O a) (hf : G.H0 a = none) (r : Reps K (upd H a (.lst vs')) O vs' ds') :
    Good K G O (ρ.set i (.ol ds')) σ (upd H a (.lst vs')) :=
  have ex : Ext H O (upd H a (.lst vs')) O := ext_app hO
  have hl : i < ρ.length := (List.getElem?_eq_some_iff.mp hi).1
  { len := by rw [List.length_set]; exact g.len
    same := fun b o h => by rw [upd_ne (ne_of_none h hf)]; exact g.same b o h
    sub := g.sub
    dom := fun b h => by
      obtain ⟨o, e⟩ := g.dom b h
      exact ex.there b o e
    dat := fun j d h => by
      rcases set_some h with ⟨rfl, z, _⟩ | ⟨n, h⟩
      · cases z
      · obtain ⟨v, e, q⟩ := g.dat j d h
        exact ⟨v, e, q.ext ex⟩
    ol := fun j d h => by
      rcases set_some h with ⟨rfl, z, _⟩ | ⟨n, h⟩
      · cases z
        exact ⟨a, vs', hs, upd_same, r, hO, hf⟩
      · obtain ⟨b, us, e, h1, q, o, f⟩ := g.ol j d h
        refine ⟨b, us, e, ?_, q.ext ex, o, f⟩
        rw [upd_ne (fun z => n (by subst z; exact g.inj i j b ds d hi h hs e))]
        exact h1
    fz := fun j d h => by
      rcases set_some h with ⟨rfl, z, _⟩ | ⟨n, h⟩
      · cases z
      · obtain ⟨b, us, e, h1, q⟩ := g.fz j d h
        exact ⟨b, us, e, h1, q.ext ex⟩
    od := fun j d h => by
      rcases set_some h with ⟨rfl, z, _⟩ | ⟨n, h⟩
      · cases z
      · exact g.od j d h
    inj := fun j k b ds1 es1 hj hk sj sk => by
      have w : ∀ {j : Nat} {d : List PyData}, (ρ.set i (.ol ds'))[j]? = some (.ol d) → ∃ d', ρ[j]? = some (.ol d') := fun {j d} h => by
        rcases set_some h with ⟨rfl, z, _⟩ | ⟨n, h⟩
        · exact ⟨ds, hi⟩
        · exact ⟨d, h⟩
      obtain ⟨d1, e1⟩ := w hj
      obtain ⟨d2, e2⟩ := w hk
      exact g.inj j k b d1 d2 e1 e2 sj sk }
end
/-- the list at slot i becomes f of it and of the arguments -/
def sUpd (i : Nat) (cs : DL) (f : List PyData → List PyData → Rs (List PyData)) : DS := fun ρ => match ρ[i]? with
  | some (.ol ds) => lift (cs ρ) ρ fun as => f ds as >>= fun ds' => .ok (.nx (ρ.set i (.ol ds')))
  | _ => stuck
def appF : List PyData → List PyData → Rs (List PyData)
  | ds, [d] => if ds.length < sizeLine then .ok (ds ++ [d]) else stuck
  | _, _ => stuck
def extF : List PyData → List PyData → Rs (List PyData)
  | ds, [.list es] => if ds.length + es.length ≤ sizeLine then .ok (ds ++ es) else stuck
  | _, _ => stuck
section
variable {X : Cx} {G : Gd} {W : WX} {e : Expr} {pos : Pos} {cs : DL} {ca : DE}
theorem upd_go {r : V → List V → Hp → VK → Prop} {i : Nat} {f : List PyData → List PyData → Rs (List PyData)}
    (hr : ∀ (a : Addr) (vs as : List V) (H : Hp) (O : Addr → Prop) (ds es ds' : List PyData) (Q : VK), H a = some (.lst vs) → O a → Reps X.K H O vs ds → Reps X.K H O as es → f ds es = .ok ds' →
      (∀ vs' : List V, Reps X.K (upd H a (.lst vs')) O vs' ds' → Q .non (upd H a (.lst vs'))) → r (.ref a) as H Q) {D : Ends} {σ : St} {H : Hp} (h : RS X G W (sUpd i cs f) D σ H) :
    tBM X.K "list" r (tVar i) (RA X W cs) σ H (fun _ H1 => D.nx σ H1) := by
  obtain ⟨ρ, O, g, p⟩ := h
  unfold sUpd at p
  split at p
  · rename_i ds hi
    obtain ⟨a, vs, e1, h1, r1, o1, f1⟩ := g.ol i ds hi
    refine ⟨_, e1, .inl ⟨rfl, vs, SqL.of h1⟩, H, ρ, O, g.e, OutR.lift g p fun es _ p as H1 s ra => ?_⟩
    obtain ⟨ds', hf, p⟩ := OutR.bind p
    exact hr a vs as H1 O ds es ds' _ (s _ _ h1) o1 (r1.ext (Ext.same s)) ra hf fun vs' rv => p σ _ O ((Ext.same s).trans (ext_app o1)) ((g.to s).updL hi e1 o1 f1 rv)
  · exact p.elim
theorem rs_append {i : Nat} {x : Str} {p apos cpos : Pos} (hN : X.N[i]? = some x) (hv : Vis X.env.scope x) (he : PE X e (RE X W ca)) (hd : (x == ("__debug__" : Str)) = false := by decide) (hcd : (x == ("__classdict__" : Str)) = false := by decide)
    (hbase : attributeBase (.Name x p) "append" X.env (eval (.Name x p) X.env) = eval (.Name x p) X.env := by rfl)
    (hfew : ((backTo cpos (starEach [e] X.env)).all (fun x => !x.1) && (backToKw cpos (keywordEach [] X.env)).all (fun x => x.1.isSome)
      && decide (([e] : List Expr).length + ([] : List Keyword).length + (if ([] : List Keyword).isEmpty then 0 else 1) < 30)) = true := by rfl)
    (hline : (apos.endLine == cpos.line) = true := by rfl) (hs : starEach [e] X.env = (false, eval e X.env) :: starEach [] X.env := by rfl) (hplain : (backTo cpos (starEach [] X.env)).any (·.1) = false := by rfl)
    (hsw : swapsWith (.Call (.Attribute (.Name x p) "append" apos) [e] [] cpos) none pos.line X.env = pure false := by rfl) : PS X (.Expr (.Call (.Attribute (.Name x p) "append" apos) [e] [] cpos) pos) (RS X G W (sUpd i (dCons ca dNil) appF)) :=
  ps_imp (ps_expr (pe_bm PySem.F.plainAttrs_list PySem.F.slot_list_append PySem.F.type_list_append mt_append (pe_var hN hv hd hcd) (ra_cons he ra_nil hs) hbase hfew hline hs hplain) hsw) fun D σ H h => upd_go (fun a vs as H O ds es ds' Q ha hO r ra hf q => by
    unfold appF at hf
    split at hf
    · split at hf
      · rename_i d hl
        cases hf
        cases ra with
        | cons a1 b1 =>
          cases b1
          exact ⟨a, vs, _, rfl, rfl, ha, by rw [r.length]; exact hl, q _ (pr_append (r.ext (ext_app hO)) (.cons (a1.ext (ext_app hO)) .nil))⟩
      · cases hf
    · cases hf) h
theorem rs_extend {i : Nat} {x : Str} {p apos cpos : Pos} (hN : X.N[i]? = some x) (hv : Vis X.env.scope x) (he : PE X e (RE X W ca)) (hd : (x == ("__debug__" : Str)) = false := by decide) (hcd : (x == ("__classdict__" : Str)) = false := by decide)
    (hbase : attributeBase (.Name x p) "extend" X.env (eval (.Name x p) X.env) = eval (.Name x p) X.env := by rfl)
    (hfew : ((backTo cpos (starEach [e] X.env)).all (fun x => !x.1) && (backToKw cpos (keywordEach [] X.env)).all (fun x => x.1.isSome)
      && decide (([e] : List Expr).length + ([] : List Keyword).length + (if ([] : List Keyword).isEmpty then 0 else 1) < 30)) = true := by rfl)
    (hline : (apos.endLine == cpos.line) = true := by rfl) (hs : starEach [e] X.env = (false, eval e X.env) :: starEach [] X.env := by rfl) (hplain : (backTo cpos (starEach [] X.env)).any (·.1) = false := by rfl)
    (hsw : swapsWith (.Call (.Attribute (.Name x p) "extend" apos) [e] [] cpos) none pos.line X.env = pure false := by rfl) : PS X (.Expr (.Call (.Attribute (.Name x p) "extend" apos) [e] [] cpos) pos) (RS X G W (sUpd i (dCons ca dNil) extF)) :=
  ps_imp (ps_expr (pe_bm PySem.F.plainAttrs_list PySem.F.slot_list_extend PySem.F.type_list_extend mt_extend (pe_var hN hv hd hcd) (ra_cons he ra_nil hs) hbase hfew hline hs hplain) hsw) fun D σ H h => upd_go (fun a vs as H O ds es ds' Q ha hO r ra hf q => by
    unfold extF at hf
    split at hf
    · split at hf
      · rename_i es hl
        cases hf
        cases ra with
        | cons a1 b1 =>
          cases b1
          cases a1 with
          | @lst b zs _ hb rb =>
            have rb := RepAll.iff.mp rb
            exact ⟨a, b, vs, zs, rfl, rfl, ha, hb.1, by rw [r.length, rb.length]; exact hl, q _ (pr_append (r.ext (ext_app hO)) (rb.ext (ext_app hO)))⟩
      · cases hf
    · cases hf) h
end
end Den

set_option Elab.async false
set_option linter.all false
set_option maxRecDepth 100000
set_option maxHeartbeats 4000000
namespace Den
open PySem PySem.Spec PyProof.Rows L2

/-! ### several except clauses, some of them with a name -/
/-- a clause: the class, the name's slot, the suite -/
abbrev Hd := Value × Option Nat × (Addr → Value → Option Addr → TS)
def endsGone (D : Ends) : Option Nat → Ends
  | none => D
  | some i => { nx := fun σ' H' => D.nx (σ'.set i none) H', rt := D.rt, bk := fun σ' H' => D.bk (σ'.set i none) H', ct := fun σ' H' => D.ct (σ'.set i none) H' }
def slotIn (σ : St) (a : Addr) : Option Nat → St
  | none => σ
  | some i => σ.set i (some (.ref a))
def wManyN (K : PySem.W.Frag) (Wout : WX) (D : Ends) : List Hd → WX
  | [] => Wout
  | (c, i, ts) :: r => fun cls d σ H => ∃ b, PySem.W.exmOne K cls c = some b ∧ (b = true → ∀ a, H a = none → ts a cls d (endsGone D i) (slotIn σ a i) H) ∧ (b = false → wManyN K Wout D r cls d σ H)
inductive HdsN (X : Cx) : List ExceptHandler → List Hd → Prop
  | nil : HdsN X [] []
  | cons {x : Str} {c : Value} {ts : Addr → Value → Option Addr → TS} {b₀ : Stmt} {suite : List Stmt} {np pos' : Pos} {hds : List ExceptHandler} {l : List Hd} (hc : Names X x c)
      (hsu : ∀ (a : Addr) (oe : Obj) (cls : Value) (d : Option Addr) (pn : List (Addr × Obj)), Zc cls d oe → (∃ vs, oe.data = .fields vs) → PSs (X.suite a ((a, oe) :: pn)) (b₀ :: suite) (ts a cls d)) (r : HdsN X hds l) :
      HdsN X (.ExceptHandler (some (.Name x np)) none (b₀ :: suite) pos' :: hds) ((c, none, ts) :: l)
  | as {x n : Str} {i : Nat} {c : Value} {ts : Addr → Value → Option Addr → TS} {b₀ : Stmt} {suite : List Stmt} {np pos' : Pos} {hds : List ExceptHandler} {l : List Hd} (hi : X.N[i]? = some n) (hln : X.env.kindOf n = some .local) (hc : Names X x c)
      (hsu : ∀ (a : Addr) (oe : Obj) (cls : Value) (d : Option Addr) (pn : List (Addr × Obj)), Zc cls d oe → (∃ vs, oe.data = .fields vs) → PSs (X.suite a ((a, oe) :: pn)) (b₀ :: suite) (ts a cls d)) (r : HdsN X hds l) :
      HdsN X (.ExceptHandler (some (.Name x np)) (some n) (b₀ :: suite) pos' :: hds) ((c, some i, ts) :: l)
section
variable {X : Cx} {body : List Stmt} {h₀ : ExceptHandler} {hds : List ExceptHandler} {l : List Hd} {pos : Pos} {tb : WX → TS} {Wout : WX}
theorem ps_tryN (hs : X.stack = X.env :: X.outer) (hf : X.env.frame = some X.env.locals) (hN : X.N.Nodup) (tk : Takes X Wout)
    (hb : ∀ (W : WX) (pn : List (Addr × Obj)) (xe : Value → Shared → Prop), Takes (X.tr pn xe) W → PassesOwn (model X.prog X.w) X.A X.env xe → PSs (X.tr pn xe) body (tb W))
    (hh : HdsN X (h₀ :: hds) l) : PS X (.Try body (h₀ :: hds) [] [] pos) (fun D σ H => tb (wManyN X.K Wout D l) D σ H) := by
  refine ⟨fun pins s σ H D I h => ?_⟩
  have ok := I.ok
  have hfr : X.A.frames = some (X.env :: X.outer) := by rw [ok.frames, hs]
  refine wpAny_Try_except ?_
  refine wpAny_mono ((hb (wManyN X.K Wout D l) (X.pn ++ pins) (fun e s₁ => wpAny (model X.prog X.w) X.A (noteFrame e X.env) (fun _ s₂ => wpAny (model X.prog X.w) X.A (setFlight e none) (fun _ s₃ =>
    wpAny (model X.prog X.w) X.A (handleBy e X.env (h₀ :: hds)) (SP X pins D) X.xe s₃) X.xe s₂) X.xe s₁) (fun u s' xx => ?_) PassesOwn.looking).run [] s σ H D (I.toTry _) h) (fun f s1 hsp => ?_) (fun e s1 he => he)
  · obtain ⟨a, B, sI, pins', σ', H', cls, d, rfl, J', nb, up, sky, na, os, ag, w⟩ := xx
    have J : Inv X pins σ' H' sI := J'.ofTry ok
    have sky' : Sky B (X.env :: X.outer) a (Zc cls d) X.env.locals s'.heap := by rw [← hs]; exact sky
    show wpAny (model X.prog X.w) X.A (noteFrame (.ref a) X.env) _ _ _
    refine Sky.land Zc.steady hfr hf sky' fun h3 fl3 up3 => ?_
    have J3 : Inv X pins σ' H' { s' with heap := h3 } := J.landed nb fl3.1 (up.trans up3) os ag
    obtain ⟨oe3, vs3, he3, hz3, hd3⟩ := fl3.there
    have notFr : ∀ {h : Heap} {o : Obj} {vs : Array Value}, h.FunFrames B (X.env :: X.outer) → h.get? a = some o → o.data = .fields vs → a ∉ frs (X.env :: X.outer) := fun {h o vs} ff e dd hm => by
      obtain ⟨_, o', e', hnf⟩ := ff.mem hm
      rw [e] at e'; cases e'
      exact hnf _ dd
    have nfr := notFr fl3.2.2.1 he3 hd3
    have nL : a ≠ X.env.locals := fun z => nfr (List.mem_filterMap.mpr ⟨X.env, List.mem_cons_self, by rw [hf, z]⟩)
    have nF : a ∉ X.fs := fun hm => by
      obtain ⟨e, he, q⟩ := List.mem_filterMap.mp hm
      exact nfr (List.mem_filterMap.mpr ⟨e, List.mem_cons_of_mem _ he, q⟩)
    have S3 := J3.suite he3 hd3 na nL nF
    have LT : PySem.W.Looks (model X.prog X.w) h3 (typeOf (.ref a)) cls := fun A Q E s k q => wpAny_typeOf_ref (k _ _ he3) (by rw [hz3.1]; exact q)
    have test : ∀ {x : Str} {c : Value} {np : Pos} {Q : Value → Shared → Prop} {E : Value → Shared → Prop}, Names X x c → Q c { s' with heap := h3 } → wpAny (model X.prog X.w) (X.A.mark (some (.ref a))) (eval (.Name x np) X.env) Q E { s' with heap := h3 } := fun {x c np Q E} hc q => by
      obtain ⟨hg, hdbg, hm | ⟨hm, hv, hnn⟩⟩ := hc
      · exact ld_glob (X := X.suite a ((a, oe3) :: (X.pn ++ pins))) S3 hg hm q hdbg
      · exact ld_blt (X := X.suite a ((a, oe3) :: (X.pn ++ pins))) S3 hg hm hv q hnn hdbg
    have go : ∀ {hds' : List ExceptHandler} {l' : List Hd}, HdsN X hds' l' → wManyN X.K Wout D l' cls d σ' H' →
        wpAny (model X.prog X.w) X.A (handleBy (.ref a) X.env hds') (SP X pins D) X.xe { s' with heap := h3 } := by
      intro hds' l' hk
      induction hk with
      | nil =>
        intro w
        refine wpAny_handleBy_nil ?_
        obtain ⟨k1, k2, k3, oe, vs, T, oT, ts', he, hz, hd, h1, hr⟩ := id fl3
        unfold PySem.passOn
        refine wpAny_bind (wpAny_field he hd h1 ?_)
        rw [if_neg (show ¬ ((Value.ref T == Value.none) = true) from by simp)]
        have fin : wpAny (model X.prog X.w) X.A (setFlight (.ref a) X.env.frame) (fun _ s4 => wpAny (model X.prog X.w) X.A (throw (.ref a) : Sem Flow) (SP X pins D) X.xe s4) X.xe { s' with heap := h3 } := by
          rw [hf]
          refine HandSPX.setFlight_upZ fl3 fun h4 hh4 up4 => wpAny_throw (tk _ _ ?_)
          exact ⟨a, B, sI, pins, σ', H', cls, d, rfl, J, nb, (up.trans up3).trans up4, .inr (.inr (by rw [hs]; exact hh4)), na, os, ag, w⟩
        first
          | exact wpAny_bind (wpAny_pure (wpAny_bind fin))
          | exact wpAny_bind fin
      | @cons x c ts b₀ suite np pos' hds2 l2 hc hsu r ih =>
        intro w
        obtain ⟨b, hb1, hyes, hno⟩ := w
        refine wpAny_handleBy_cons (codeAny_handlers_test ?_) (by intro q; cases q)
        have LM := PySem.W.exm_one (M := model X.prog X.w) (J3.kIn) LT hb1
        refine test hc (LM.here ?_)
        cases b with
        | true =>
          refine codeAny_handlers_suite ?_
          refine HandSPX.lands_againZ fl3 fun h4 fl4 up4 => ?_
          have J4 : Inv X pins σ' H' { s' with heap := h4 } := J.landed nb fl4.1 ((up.trans up3).trans up4) os ag
          obtain ⟨oe4, vs4, he4, hz4, hd4⟩ := fl4.there
          have S4 := J4.suite he4 hd4 na nL nF
          refine wpAny_mono ((hsu a oe4 cls d (X.pn ++ pins) hz4 ⟨_, hd4⟩).run [] _ _ H' _ S4 (hyes rfl a na)) (fun f s6 hsp => ?_) (fun _ _ z => False.elim z)
          cases f with
          | next =>
            obtain ⟨σ6, H6, S6, q6⟩ := hsp
            exact ⟨_, _, S6.unsuite ok, q6⟩
          | brk =>
            obtain ⟨σ6, H6, S6, q6⟩ := hsp
            exact ⟨_, _, S6.unsuite ok, q6⟩
          | cont =>
            obtain ⟨σ6, H6, S6, q6⟩ := hsp
            exact ⟨_, _, S6.unsuite ok, q6⟩
          | ret u =>
            obtain ⟨v6, σ6, H6, S6, r6, q6⟩ := hsp
            exact ⟨_, _, _, S6.unsuite ok, r6, q6⟩
        | false =>
          show wpAny _ X.A (handleBy (.ref a) X.env hds2) _ _ _
          exact ih (hno rfl)
      | @as x n i c ts b₀ suite np pos' hds2 l2 hi hln hc hsu r ih =>
        intro w
        obtain ⟨b, hb1, hyes, hno⟩ := w
        refine wpAny_handleBy_cons (codeAny_handlers_test ?_) (by intro q; cases q)
        have LM := PySem.W.exm_one (M := model X.prog X.w) (J3.kIn) LT hb1
        refine test hc (LM.here ?_)
        cases b with
        | true =>
          refine codeAny_handlers_suite_as ?_
          refine HandSPX.lands_againZ fl3 fun h4 fl4 up4 => ?_
          have J4 : Inv X pins σ' H' { s' with heap := h4 } := J.landed nb fl4.1 ((up.trans up3).trans up4) os ag
          obtain ⟨oe4, vs4, he4, hz4, hd4⟩ := fl4.there
          have S4 := J4.suite he4 hd4 na nL nF
          refine store_ok (X := X.suite a ((a, oe4) :: (X.pn ++ pins))) (v := .ref a) S4 hN hi (.inl hln) rfl (fun s5 S5 => ?_) (.inr hln)
          refine wpAny_mono ((hsu a oe4 cls d (X.pn ++ pins) hz4 ⟨_, hd4⟩).run [] s5 _ H' _ S5 (hyes rfl a na)) (fun f s6 hsp => ?_) (fun _ _ z => False.elim z)
          have end_ : ∀ {σ6 : St} {H6 : Hp} {Q : Shared → Prop}, Inv (X.suite a ((a, oe4) :: (X.pn ++ pins))) [] σ6 H6 s6 → (∀ s7, Inv X pins (σ6.set i none) H6 s7 → Q s7) →
              wpAny (model X.prog X.w) X.A (do bindName X.env n .none; unbindBehindTheSuite X.env n pos') (fun _ s7 => Q s7) X.xe s6 := fun {σ6 H6 Q} S6 hq => gone_ok (S6.unsuite ok) hN hi hln hq
          cases f with
          | next =>
            obtain ⟨σ6, H6, S6, q6⟩ := hsp
            exact end_ S6 fun s7 J7 => ⟨_, _, J7, q6⟩
          | brk =>
            obtain ⟨σ6, H6, S6, q6⟩ := hsp
            exact end_ S6 fun s7 J7 => ⟨_, _, J7, q6⟩
          | cont =>
            obtain ⟨σ6, H6, S6, q6⟩ := hsp
            exact end_ S6 fun s7 J7 => ⟨_, _, J7, q6⟩
          | ret u =>
            obtain ⟨v6, σ6, H6, S6, r6, q6⟩ := hsp
            exact end_ S6 fun s7 J7 => ⟨_, _, _, J7, r6, q6⟩
        | false =>
          show wpAny _ X.A (handleBy (.ref a) X.env hds2) _ _ _
          exact ih (hno rfl)
    exact go hh w
  · cases f with
    | next =>
      obtain ⟨σ', H', J', q⟩ := hsp
      exact wpAny_execs_nil ⟨σ', H', J'.ofTry ok, q⟩
    | brk =>
      obtain ⟨σ', H', J', q⟩ := hsp
      exact ⟨σ', H', J'.ofTry ok, q⟩
    | cont =>
      obtain ⟨σ', H', J', q⟩ := hsp
      exact ⟨σ', H', J'.ofTry ok, q⟩
    | ret u =>
      obtain ⟨v, σ', H', J', r, q⟩ := hsp
      exact ⟨v, σ', H', J'.ofTry ok, r, q⟩
end

/-! ### the denotation -/
/-- a clause, over data: the class's name, the name's slot, what the suite does with an exception of the class n -/
structure HdD where
  cls : String
  slot : Option Nat
  suite : String → Option (String × PyData) → DS
def catchD (sub : String → String → Option Bool) : List HdD → String → Option (String × PyData) → EnvD → Rs Out
  | [], n, p, ρ => .ok (.xc n p ρ)
  | h :: r, n, p, ρ => match sub n h.cls with
    | some true => match h.slot with
      | none => h.suite n p ρ >>= fun o => match o with
        | .xc _ _ _ => stuck
        | o => .ok o
      | some i => if i < ρ.length then h.suite n p (ρ.set i .un) >>= fun o => match o with
        | .rt d => .ok (.rt d)
        | _ => stuck
        else stuck
    | some false => catchD sub r n p ρ
    | none => stuck
def sTry (sub : String → String → Option Bool) (body : DS) (hs : List HdD) : DS := fun ρ => body ρ >>= fun o => match o with
  | .xc n p ρ' => catchD sub hs n p ρ'
  | o => .ok o
/-- the exception's own dict -/
def PL (K : PySem.W.Frag) (H : Hp) (O : Addr → Prop) (d : Option Addr) : Option (String × PyData) → Prop
  | none => d = none
  | some (f, pd) => ∃ dd v, d = some dd ∧ H dd = some (.xd [((f : Str), v)]) ∧ Rep K H O v pd
/-- what a suite is, the exception in slot i -/
def RSH (X : Cx) (G : Gd) (n : String) (p : Option (String × PyData)) (a : Addr) (cls : Value) (d : Option Addr) (i : Option Nat) (c : DS) : TS := fun D σ H =>
  ∃ ρ O, Good X.K G O ρ σ H ∧ X.mg n = some cls ∧ (∀ j, i = some j → σ[j]? = some (some (.ref a))) ∧ PL X.K H O d p ∧ OutR X G W0 D H O (c ρ)
inductive HdsR (X : Cx) (G : Gd) : List ExceptHandler → List HdD → List Hd → Prop
  | nil : HdsR X G [] [] []
  | cons {x : Str} {cls : String} {C : Addr} {su : String → Option (String × PyData) → DS} {b₀ : Stmt} {suite : List Stmt} {np pos' : Pos} {hds : List ExceptHandler} {hs : List HdD} {l : List Hd} (hc : Names X x (.ref C)) (hm : X.mg cls = some (.ref C))
      (hsu : ∀ (a : Addr) (oe : Obj) (cls : Value) (d : Option Addr) (pn : List (Addr × Obj)), Zc cls d oe → (∃ vs, oe.data = .fields vs) → ∀ n p, PSs (X.suite a ((a, oe) :: pn)) (b₀ :: suite) (RSH (X.suite a ((a, oe) :: pn)) G n p a cls d none (su n p))) (r : HdsR X G hds hs l) :
      HdsR X G (.ExceptHandler (some (.Name x np)) none (b₀ :: suite) pos' :: hds) (⟨cls, none, su⟩ :: hs) ((.ref C, none, fun a k d D σ H => ∃ n p, RSH X G n p a k d none (su n p) D σ H) :: l)
  | as {x nm : Str} {i : Nat} {cls : String} {C : Addr} {su : String → Option (String × PyData) → DS} {b₀ : Stmt} {suite : List Stmt} {np pos' : Pos} {hds : List ExceptHandler} {hs : List HdD} {l : List Hd} (hi : X.N[i]? = some nm) (hln : X.env.kindOf nm = some .local) (hc : Names X x (.ref C)) (hm : X.mg cls = some (.ref C))
      (hsu : ∀ (a : Addr) (oe : Obj) (cls : Value) (d : Option Addr) (pn : List (Addr × Obj)), Zc cls d oe → (∃ vs, oe.data = .fields vs) → ∀ n p, PSs (X.suite a ((a, oe) :: pn)) (b₀ :: suite) (RSH (X.suite a ((a, oe) :: pn)) G n p a cls d (some i) (su n p))) (r : HdsR X G hds hs l) :
      HdsR X G (.ExceptHandler (some (.Name x np)) (some nm) (b₀ :: suite) pos' :: hds) (⟨cls, some i, su⟩ :: hs) ((.ref C, some i, fun a k d D σ H => ∃ n p, RSH X G n p a k d (some i) (su n p) D σ H) :: l)
def SubOk (X : Cx) (sub : String → String → Option Bool) : Prop := ∀ n m b, sub n m = some b → ∃ C D, X.mg n = some (.ref C) ∧ X.mg m = some (.ref D) ∧ PySem.W.exmOne X.K (.ref C) (.ref D) = some b
section
variable {X : Cx} {G : Gd} {W : WX}
theorem HdsR.hdsN {hds : List ExceptHandler} {hs : List HdD} {l : List Hd} (h : HdsR X G hds hs l) : HdsN X hds l := by
  induction h with
  | nil => exact .nil
  | cons hc hm hsu r ih => exact .cons hc (fun a oe cls d pn hz hf => ⟨fun pins s σ H D I ⟨n, p, h⟩ => (hsu a oe cls d pn hz hf n p).run pins s σ H D I h⟩) ih
  | as hi hln hc hm hsu r ih => exact .as hi hln hc (fun a oe cls d pn hz hf => ⟨fun pins s σ H D I ⟨n, p, h⟩ => (hsu a oe cls d pn hz hf n p).run pins s σ H D I h⟩) ih
theorem catch_go {sub : String → String → Option Bool} (hsub : SubOk X sub) {D : Ends} {H H' : Hp} {O O' : Addr → Prop} {n : String} {pl : Option (String × PyData)} {ρ : EnvD} {σ : St} {cls : Value} {d : Option Addr} (e : Ext H O H' O') (g : Good X.K G O' ρ σ H') (hpl : PL X.K H' O' d pl) (hm : X.mg n = some cls)
    {hds : List ExceptHandler} {hs : List HdD} {l : List Hd} (h : HdsR X G hds hs l) : OutR X G W D H O (catchD sub hs n pl ρ) → wManyN X.K W D l cls d σ H' := by
  induction h with
  | nil =>
    intro p
    cases pl with
    | none =>
      obtain ⟨C, hm', p⟩ := p
      rw [hm] at hm'; cases hm'
      obtain rfl : d = none := hpl
      exact p σ H' O' e g
    | some fp =>
      obtain ⟨f, pd⟩ := fp
      obtain ⟨C, hm', p⟩ := p
      rw [hm] at hm'; cases hm'
      obtain ⟨dd, v, rfl, h1, h2⟩ := hpl
      exact p σ H' O' dd v e g h1 h2
  | @cons x cn C su b₀ suite np pos' hds hs l hc hmc hsu r ih =>
    intro p
    rw [catchD] at p
    cases hq : sub n cn with
    | none => simp only [hq] at p; exact p.elim
    | some b =>
      obtain ⟨C1, D1, e1, e2, e3⟩ := hsub n cn b hq
      rw [hm] at e1; cases e1
      rw [hmc] at e2; cases e2
      refine ⟨b, e3, fun hb a ha => ?_, fun hb => ?_⟩
      · subst hb
        simp only [hq] at p
        obtain ⟨o, ho, p⟩ := OutR.bind p
        refine ⟨n, pl, ρ, O', g, hm, (fun j z => nomatch z), hpl, ?_⟩
        rw [ho]
        cases o with
        | nx ρ' => exact OutR.ext e (show OutR X G W0 D H O (.ok (.nx ρ')) from p)
        | rt d => exact OutR.ext e (show OutR X G W0 D H O (.ok (.rt d)) from p)
        | bk ρ' => exact OutR.ext e (show OutR X G W0 D H O (.ok (.bk ρ')) from p)
        | ct ρ' => exact OutR.ext e (show OutR X G W0 D H O (.ok (.ct ρ')) from p)
        | xc _ _ _ => exact p.elim
      · subst hb
        simp only [hq] at p
        exact ih p
  | @as x nm i cn C su b₀ suite np pos' hds hs l hi hln hc hmc hsu r ih =>
    intro p
    rw [catchD] at p
    cases hq : sub n cn with
    | none => simp only [hq] at p; exact p.elim
    | some b =>
      obtain ⟨C1, D1, e1, e2, e3⟩ := hsub n cn b hq
      rw [hm] at e1; cases e1
      rw [hmc] at e2; cases e2
      refine ⟨b, e3, fun hb a ha => ?_, fun hb => ?_⟩
      · subst hb
        simp only [hq] at p
        split at p
        · rename_i hl
          obtain ⟨o, ho, p⟩ := OutR.bind p
          refine ⟨n, pl, ρ.set i .un, O', g.unset i _, hm, fun j z => ?_, hpl, ?_⟩
          · cases z
            exact set_at (by rw [← g.len]; exact hl)
          · rw [ho]
            cases o with
            | rt d =>
              have p : ∀ v H2 O2, Ext H O H2 O2 → Same G.H0 H2 → Rep X.K H2 G.O0 v d → D.rt v H2 := p
              exact fun v H2 O2 e2 s r => p v H2 O2 (e.trans e2) s r
            | _ => exact p.elim
        · exact p.elim
      · subst hb
        simp only [hq] at p
        exact ih p
theorem rs_try {body : List Stmt} {h₀ : ExceptHandler} {hds : List ExceptHandler} {hs : List HdD} {l : List Hd} {pos : Pos} {cb : DS} {sub : String → String → Option Bool} (hst : X.stack = X.env :: X.outer) (hf : X.env.frame = some X.env.locals) (hN : X.N.Nodup) (tk : Takes X W) (hsub : SubOk X sub)
    (hb : ∀ (W : WX) (pn : List (Addr × Obj)) (xe : Value → Shared → Prop), Takes (X.tr pn xe) W → PassesOwn (model X.prog X.w) X.A X.env xe → PSs (X.tr pn xe) body (RS (X.tr pn xe) G W cb))
    (hh : HdsR X G (h₀ :: hds) hs l) : PS X (.Try body (h₀ :: hds) [] [] pos) (RS X G W (sTry sub cb hs)) :=
  ps_imp (ps_tryN (tb := fun W => RS X G W cb) hst hf hN tk hb hh.hdsN) fun D σ H ⟨ρ, O, g, p⟩ => by
    refine ⟨ρ, O, g, ?_⟩
    unfold sTry at p
    obtain ⟨o, ho, p⟩ := OutR.bind p
    rw [ho]
    cases o with
    | xc n pl ρ' =>
      have hcls : ∃ C, X.mg n = some (.ref C) := by
        have p : OutR X G W D H O (catchD sub hs n pl ρ') := p
        cases hs with
        | nil => cases hh
        | cons h r =>
          rw [catchD] at p
          cases hq : sub n h.cls with
          | none => simp only [hq] at p; exact p.elim
          | some b =>
            obtain ⟨C1, D1, e1, _⟩ := hsub n h.cls b hq
            exact ⟨C1, e1⟩
      obtain ⟨C, hm⟩ := hcls
      cases pl with
      | none => exact ⟨C, hm, fun σ' H' O' e g' => catch_go hsub e g' (show PL X.K H' O' none none from rfl) hm hh p⟩
      | some fp =>
        obtain ⟨f, pd⟩ := fp
        exact ⟨C, hm, fun σ' H' O' dd v e g' h1 h2 => catch_go hsub e g' (show PL X.K H' O' (some dd) (some (f, pd)) from ⟨dd, v, rfl, h1, h2⟩) hm hh p⟩
    | _ => exact p
/-! suites -/
theorem rsh_rs {a : Addr} {oe : Obj} {pn : List (Addr × Obj)} {cls : Value} {d : Option Addr} {n : String} {p : Option (String × PyData)} {i : Option Nat} {ss : List Stmt} {c : DS} (h : PSs (X.suite a ((a, oe) :: pn)) ss (RS (X.suite a ((a, oe) :: pn)) G W0 c)) : PSs (X.suite a ((a, oe) :: pn)) ss (RSH (X.suite a ((a, oe) :: pn)) G n p a cls d i c) :=
  pss_imp h fun D σ H ⟨ρ, O, g, _, _, _, q⟩ => ⟨ρ, O, g, q⟩
/-- isinstance(e, C), e the exception of the suite -/
def tIsE (K : PySem.W.Frag) (cls : Value) (d : Option Addr) (a : Addr) (i : Nat) (C : Addr) : TE := fun σ H Q => σ[i]? = some (some (.ref a)) ∧ ∃ D b, cls = .ref D ∧ d = none ∧ ExcC K D ∧ PySem.W.kitOne K (.ref D) (.ref C) = some b ∧ Q (.bl b) H
theorem pe_isE {a C : Addr} {oe : Obj} {pn : List (Addr × Obj)} {cls : Value} {d : Option Addr} {i : Nat} {x y : Str} {p p1 p2 pos : Pos} (hz : Zc cls d oe) (hf : ∃ vs, oe.data = .fields vs) (hg : Gl X "isinstance") (hm : X.mg "isinstance" = none) (hN : X.N[i]? = some x) (hv : Vis X.env.scope x) (hg2 : Gl X y) (hm2 : X.mg y = some (.ref C))
    (hd : (x == ("__debug__" : Str)) = false := by decide) (hcd : (x == ("__classdict__" : Str)) = false := by decide) (hd2 : (y == ("__debug__" : Str)) = false := by decide)
    (hs : starEach [.Name x p1, .Name y p2] X.env = (false, eval (.Name x p1) X.env) :: starEach [.Name y p2] X.env := by rfl) (hs2 : starEach [.Name y p2] X.env = [(false, eval (.Name y p2) X.env)] := by rfl) (hpl : (backTo pos (starEach [.Name y p2] X.env)).any (·.1) = false := by rfl) :
    PE (X.suite a ((a, oe) :: pn)) (.Call (.Name "isinstance" p) [.Name x p1, .Name y p2] [] pos) (tIsE X.K cls d a i C) := by
  refine ⟨fun pins s σ H Q I ⟨hi, D, b, ec, ed, hC, hk, q⟩ => ?_⟩
  subst ec ed
  exact (pe_callB (X := X.suite a ((a, oe) :: pn)) (call_isE hC hz hf) hg hm boot_isinstance (pa_cons (pe_var hN hv hd hcd) (pa_cons (pe_glob (v := .ref C) hg2 hm2 rfl hd2) pa_nil hs2) hs) (by decide) (by decide) hs hpl).run pins s σ H Q I
    ⟨_, hi, .ref C, .ref C, b, rfl, fun u r => r, hk, q⟩
def KitOk (X : Cx) (sub : String → String → Option Bool) : Prop := ∀ n m b, sub n m = some b → ∃ C D, X.mg n = some (.ref C) ∧ X.mg m = some (.ref D) ∧ PySem.W.kitOne X.K (.ref C) (.ref D) = some b ∧ ExcC X.K C
def sIsi (k : Option Bool) (p : Option (String × PyData)) (a b : DE) : DS := match k, p with
  | some true, none => sRet a
  | some false, none => sRet b
  | _, _ => fun _ => stuck
/-- return A if isinstance(e, C) else B -/
theorem rsh_isi {a C : Addr} {oe : Obj} {pn : List (Addr × Obj)} {cls : Value} {d : Option Addr} {i : Nat} {x y : Str} {cy n : String} {pl : Option (String × PyData)} {p p1 p2 p3 p4 pos : Pos} {ea eb : Expr} {ca cb : DE} {sub : String → String → Option Bool} (hkit : KitOk X sub) (hz : Zc cls d oe) (hf : ∃ vs, oe.data = .fields vs) (hg : Gl X "isinstance") (hm : X.mg "isinstance" = none) (hN : X.N[i]? = some x) (hv : Vis X.env.scope x) (hg2 : Gl X y) (hm2 : X.mg y = some (.ref C)) (hcy : X.mg cy = some (.ref C))
    (ha : PE (X.suite a ((a, oe) :: pn)) ea (RE (X.suite a ((a, oe) :: pn)) W0 ca)) (hb : PE (X.suite a ((a, oe) :: pn)) eb (RE (X.suite a ((a, oe) :: pn)) W0 cb))
    (hd : (x == ("__debug__" : Str)) = false := by decide) (hcd : (x == ("__classdict__" : Str)) = false := by decide) (hd2 : (y == ("__debug__" : Str)) = false := by decide)
    (hs : starEach [.Name x p1, .Name y p2] X.env = (false, eval (.Name x p1) X.env) :: starEach [.Name y p2] X.env := by rfl) (hs2 : starEach [.Name y p2] X.env = [(false, eval (.Name y p2) X.env)] := by rfl) (hpl : (backTo p3 (starEach [.Name y p2] X.env)).any (·.1) = false := by rfl) :
    PSs (X.suite a ((a, oe) :: pn)) [.Return (some (.IfExp (.Call (.Name "isinstance" p) [.Name x p1, .Name y p2] [] p3) ea eb p4)) pos] (RSH (X.suite a ((a, oe) :: pn)) G n pl a cls d (some i) (sIsi (sub n cy) pl ca cb)) :=
  pss_one (ps_imp (ps_ret (pe_ifExp (pt_val (pe_isE hz hf hg hm hN hv hg2 hm2 hd hcd hd2 hs hs2 hpl)) ha hb)) fun D σ H ⟨ρ, O, g, hmn, hj, hpl, q⟩ => by
    cases hq : sub n cy with
    | none => rw [hq] at q; exact q.elim
    | some b =>
      obtain ⟨C1, D1, e1, e2, e3, e4⟩ := hkit n cy b hq
      have e1 : X.mg n = some (.ref C1) := e1
      have hmn : X.mg n = some cls := hmn
      rw [hmn] at e1; cases e1
      rw [hcy] at e2; cases e2
      cases pl with
      | some fp => rw [hq] at q; cases b <;> exact q.elim
      | none =>
        obtain rfl : d = none := hpl
        refine ⟨hj i rfl, C1, b, rfl, rfl, e4, e3, b, rfl, ?_⟩
        rw [hq] at q
        cases b with
        | true => exact ⟨H, ρ, O, g.e, OutR.lift g q fun d _ p v H' s r => p v H' O (Ext.same s) (g.same.trans s) (r.out g.sub)⟩
        | false => exact ⟨H, ρ, O, g.e, OutR.lift g q fun d _ p v H' s r => p v H' O (Ext.same s) (g.same.trans s) (r.out g.sub)⟩)
/-- return isinstance(e, C) -/
theorem rsh_is {a C : Addr} {oe : Obj} {pn : List (Addr × Obj)} {cls : Value} {d : Option Addr} {i : Nat} {x y : Str} {cy n : String} {pl : Option (String × PyData)} {p p1 p2 p3 pos : Pos} {sub : String → String → Option Bool} (hkit : KitOk X sub) (hz : Zc cls d oe) (hf : ∃ vs, oe.data = .fields vs) (hg : Gl X "isinstance") (hm : X.mg "isinstance" = none) (hN : X.N[i]? = some x) (hv : Vis X.env.scope x) (hg2 : Gl X y) (hm2 : X.mg y = some (.ref C)) (hcy : X.mg cy = some (.ref C))
    (hd : (x == ("__debug__" : Str)) = false := by decide) (hcd : (x == ("__classdict__" : Str)) = false := by decide) (hd2 : (y == ("__debug__" : Str)) = false := by decide)
    (hs : starEach [.Name x p1, .Name y p2] X.env = (false, eval (.Name x p1) X.env) :: starEach [.Name y p2] X.env := by rfl) (hs2 : starEach [.Name y p2] X.env = [(false, eval (.Name y p2) X.env)] := by rfl) (hpl : (backTo p3 (starEach [.Name y p2] X.env)).any (·.1) = false := by rfl) :
    PSs (X.suite a ((a, oe) :: pn)) [.Return (some (.Call (.Name "isinstance" p) [.Name x p1, .Name y p2] [] p3)) pos] (RSH (X.suite a ((a, oe) :: pn)) G n pl a cls d (some i) (sIsi (sub n cy) pl (dLit (.bool true)) (dLit (.bool false)))) :=
  pss_one (ps_imp (ps_ret (pe_isE hz hf hg hm hN hv hg2 hm2 hd hcd hd2 hs hs2 hpl)) fun D σ H ⟨ρ, O, g, hmn, hj, hpl, q⟩ => by
    cases hq : sub n cy with
    | none => rw [hq] at q; exact q.elim
    | some b =>
      obtain ⟨C1, D1, e1, e2, e3, e4⟩ := hkit n cy b hq
      have e1 : X.mg n = some (.ref C1) := e1
      have hmn : X.mg n = some cls := hmn
      rw [hmn] at e1; cases e1
      rw [hcy] at e2; cases e2
      cases pl with
      | some fp => rw [hq] at q; cases b <;> exact q.elim
      | none =>
        obtain rfl : d = none := hpl
        refine ⟨hj i rfl, C1, b, rfl, rfl, e4, e3, ?_⟩
        rw [hq] at q
        cases b with
        | true => exact (show OutR X G W0 D H O (.ok (.rt (.bool true))) from q) (.bl true) H O Ext.refl g.same (.bl true)
        | false => exact (show OutR X G W0 D H O (.ok (.rt (.bool false))) from q) (.bl false) H O Ext.refl g.same (.bl false))
end
end Den

set_option Elab.async false
set_option linter.all false
set_option maxRecDepth 100000
set_option maxHeartbeats 4000000
namespace Den
open PySem PySem.Spec PyProof.Rows L2

theorem u64 {k : Nat} {A : Around} (r : Room k A) : A.units + 64 < cLine := r.units
theorem u65 {k : Nat} {A : Around} (r : Room k A) : A.units + 65 < cLine := by have := r.un; omega
theorem u66 {k : Nat} {A : Around} (r : Room k A) : A.units + 66 < cLine := by have := r.un; omega
section
variable {X : Cx} {G : Gd} {W : WX}
/-! constants of the module -/
theorem re_globI {x : Str} {n : Int} {pos : Pos} (hg : Gl X x) (h : ∃ t, X.mg x = some (.int n t)) (hd : (x == ("__debug__" : Str)) = false := by decide) : PE X (.Name x pos) (RE X W (dLit (.int n))) := by
  obtain ⟨t, h⟩ := h
  exact re_glob hg h (v := .int n) ⟨t, rfl⟩ (krep_int n) hd
theorem re_globS {x n : Str} {pos : Pos} (hg : Gl X x) (h : ∃ t, X.mg x = some (.str n t)) (hd : (x == ("__debug__" : Str)) = false := by decide) : PE X (.Name x pos) (RE X W (dLit (.str n))) := by
  obtain ⟨t, h⟩ := h
  exact re_glob hg h (v := .str n) ⟨t, rfl⟩ (krep_str n) hd
/-! targets -/
theorem rg_nm {i : Nat} {x : Str} {pos : Pos} (hN : X.N.Nodup) (hi : X.N[i]? = some x) (hx : Loc X.env.scope x := by first | exact Or.inl rfl | exact Or.inr rfl) (hf : X.fn x = true ∨ X.env.scope.names.lookup x = some .local := by first | exact .inl rfl | exact .inr rfl) : PG X (.Name x pos) ((Tg.nm i).g X.K) := by
  rw [Tg.g]
  exact pg_name hN hi hx hf
theorem rgs_nil : PGs X [] (Tg.gs X.K []) := by
  rw [Tg.gs]
  exact pgs_nil
theorem rgs_cons {t : Tg} {ts : List Tg} {e : Expr} {es : List Expr} (h : PG X e (t.g X.K)) (hs : PGs X es (Tg.gs X.K ts)) (he : (assignEach (e :: es) X.env).map (·.2) = assign e X.env :: (assignEach es X.env).map (·.2) := by rfl) : PGs X (e :: es) (Tg.gs X.K (t :: ts)) := by
  rw [Tg.gs]
  exact pgs_cons h hs he
theorem rg_tp {ts : List Tg} {es : List Expr} {k : Nat} {pos : Pos} (hc : X.calm = true) (h : PGs X es (Tg.gs X.K ts)) (hn : (assignEach es X.env).length = ts.length := by rfl) (hst : (assignEach es X.env).findIdx? (·.1) = none := by rfl) : PG X (.Tuple es k pos) ((Tg.tp ts).g X.K) := by
  rw [Tg.g]
  exact pg_tup hc h hn hst
/-! ifs of a comprehension -/
theorem pts_imp {es : List Expr} {t t' : TT} (h : PTs X es t) (i : ∀ σ H Q, t' σ H Q → t σ H Q) : PTs X es t' := ⟨fun pins s σ H Q I q => h.run pins s σ H Q I (i σ H Q q)⟩
theorem rts_nil : PTs X [] (RT X W tYesD) := pts_imp pts_nil fun σ H Q ⟨Hb, ρ, O, g, p⟩ => p H (Same.refl H)
theorem rts_one {e : Expr} {t : DT} (h : PT X e (RT X W t)) : PTs X [e] (RT X W t) := pts_one h
/-! y = [..] -/
theorem rs_ownLc {it : DL} {t : Tg} {tt : DT} {e : DE} {i : Nat} {y : Str} {py : Pos} {elt tg iter : Expr} {ifs : List Expr} {scope : Scope} {own : List (Str × Nat)} {pos spos : Pos} (hc : X.calm = true) (hN : X.N.Nodup) (hy : X.N[i]? = some y) (hyl : X.env.scope.names.lookup y = some .local)
    (hsw : swapsWith (.ListComp elt [⟨tg, iter, ifs, 0⟩] scope pos) (some (.Name y py)) spos.line X.env = pure true) (hi : PI X tg iter (RIW X W it)) (ok : BlkOk X.N X.env.scope scope own)
    (hg : ∀ (s : Shared) (H : Hp) (C : Addr) (cl : List (Str × Addr)) (fp : List Addr), PG (X.blk s H scope (compEnvC scope cl C X.env) fp) tg (t.g X.K)) (ht : ∀ (s : Shared) (H : Hp) (C : Addr) (cl : List (Str × Addr)) (fp : List Addr), PTs (X.blk s H scope (compEnvC scope cl C X.env) fp) ifs (RT (X.blk s H scope (compEnvC scope cl C X.env) fp) W0 tt))
    (he : ∀ (s : Shared) (H : Hp) (C : Addr) (cl : List (Str × Addr)) (fp : List Addr), PE (X.blk s H scope (compEnvC scope cl C X.env) fp) elt (RE (X.blk s H scope (compEnvC scope cl C X.env) fp) W0 e)) (hs : ∀ x, foldedSetIterable iter X.env x = pure x := by intro _; rfl) :
    PS X (.Assign [.Name y py] (.ListComp elt [⟨tg, iter, ifs, 0⟩] scope pos) spos) (RS X G W (sOwn i (dComp it (own.map (·.2)) t tt e))) :=
  ps_imp (ps_setLc (i := i) hc hN hy hyl hsw hi ok hg ht he hs) fun D σ H h => lc_go (Q := fun x H1 => gName i x σ H1 D.nx) (show RL X W (dComp it (own.map (·.2)) t tt e) σ H (fun x H1 => gName i x σ H1 D.nx) from own_go h)
theorem rs_setLc {it : DL} {t : Tg} {tt : DT} {e : DE} {i : Nat} {y : Str} {py : Pos} {elt tg iter : Expr} {ifs : List Expr} {scope : Scope} {own : List (Str × Nat)} {pos spos : Pos} (hc : X.calm = true) (hN : X.N.Nodup) (hy : X.N[i]? = some y) (hyl : X.env.scope.names.lookup y = some .local)
    (hsw : swapsWith (.ListComp elt [⟨tg, iter, ifs, 0⟩] scope pos) (some (.Name y py)) spos.line X.env = pure true) (hi : PI X tg iter (RIW X W it)) (ok : BlkOk X.N X.env.scope scope own)
    (hg : ∀ (s : Shared) (H : Hp) (C : Addr) (cl : List (Str × Addr)) (fp : List Addr), PG (X.blk s H scope (compEnvC scope cl C X.env) fp) tg (t.g X.K)) (ht : ∀ (s : Shared) (H : Hp) (C : Addr) (cl : List (Str × Addr)) (fp : List Addr), PTs (X.blk s H scope (compEnvC scope cl C X.env) fp) ifs (RT (X.blk s H scope (compEnvC scope cl C X.env) fp) W0 tt))
    (he : ∀ (s : Shared) (H : Hp) (C : Addr) (cl : List (Str × Addr)) (fp : List Addr), PE (X.blk s H scope (compEnvC scope cl C X.env) fp) elt (RE (X.blk s H scope (compEnvC scope cl C X.env) fp) W0 e)) (hs : ∀ x, foldedSetIterable iter X.env x = pure x := by intro _; rfl) :
    PS X (.Assign [.Name y py] (.ListComp elt [⟨tg, iter, ifs, 0⟩] scope pos) spos) (RS X G W (sSet i (dLst (dComp it (own.map (·.2)) t tt e)))) :=
  ps_imp (ps_setLc (i := i) hc hN hy hyl hsw hi ok hg ht he hs) fun D σ H h => lc_go (Q := fun x H1 => gName i x σ H1 D.nx) (show RL X W (dComp it (own.map (·.2)) t tt e) σ H (fun x H1 => gName i x σ H1 D.nx) from rl_set_go h)
theorem rs_setLc2 {it it1 : DL} {t t1 : Tg} {tt tt1 : DT} {e : DE} {i : Nat} {y : Str} {py : Pos} {elt tg iter tg1 iter1 : Expr} {ifs ifs1 : List Expr} {scope : Scope} {own : List (Str × Nat)} {vs1 : List Nat} {pos spos : Pos} (hc : X.calm = true) (hN : X.N.Nodup) (hy : X.N[i]? = some y) (hyl : X.env.scope.names.lookup y = some .local)
    (hsw : swapsWith (.ListComp elt [⟨tg, iter, ifs, 0⟩, ⟨tg1, iter1, ifs1, 0⟩] scope pos) (some (.Name y py)) spos.line X.env = pure true) (hi : PI X tg iter (RIW X W it)) (ok : BlkOk X.N X.env.scope scope own) (hv : ∀ i ∈ vs1, i ∈ own.map (·.2))
    (hg : ∀ (s : Shared) (H : Hp) (C : Addr) (cl : List (Str × Addr)) (fp : List Addr), PG (X.blk s H scope (compEnvC scope cl C X.env) fp) tg (t.g X.K)) (ht : ∀ (s : Shared) (H : Hp) (C : Addr) (cl : List (Str × Addr)) (fp : List Addr), PTs (X.blk s H scope (compEnvC scope cl C X.env) fp) ifs (RT (X.blk s H scope (compEnvC scope cl C X.env) fp) W0 tt))
    (hi1 : ∀ (s : Shared) (H : Hp) (C : Addr) (cl : List (Str × Addr)) (fp : List Addr), PI (X.blk s H scope (compEnvC scope cl C X.env) fp) tg1 iter1 (RI (X.blk s H scope (compEnvC scope cl C X.env) fp) W0 it1))
    (hg1 : ∀ (s : Shared) (H : Hp) (C : Addr) (cl : List (Str × Addr)) (fp : List Addr), PG (X.blk s H scope (compEnvC scope cl C X.env) fp) tg1 (t1.g X.K)) (ht1 : ∀ (s : Shared) (H : Hp) (C : Addr) (cl : List (Str × Addr)) (fp : List Addr), PTs (X.blk s H scope (compEnvC scope cl C X.env) fp) ifs1 (RT (X.blk s H scope (compEnvC scope cl C X.env) fp) W0 tt1))
    (he : ∀ (s : Shared) (H : Hp) (C : Addr) (cl : List (Str × Addr)) (fp : List Addr), PE (X.blk s H scope (compEnvC scope cl C X.env) fp) elt (RE (X.blk s H scope (compEnvC scope cl C X.env) fp) W0 e)) (hs : ∀ x, foldedSetIterable iter X.env x = pure x := by intro _; rfl) (hs1 : ∀ env x, foldedSetIterable iter1 env x = pure x := by intro _ _; rfl) :
    PS X (.Assign [.Name y py] (.ListComp elt [⟨tg, iter, ifs, 0⟩, ⟨tg1, iter1, ifs1, 0⟩] scope pos) spos) (RS X G W (sSet i (dLst (dComp2 it (own.map (·.2)) t tt it1 vs1 t1 tt1 e)))) :=
  ps_imp (ps_setLc2 (i := i) hc hN hy hyl hsw hi ok hv hg ht hi1 hg1 ht1 he hs hs1) fun D σ H h => lc2_go (Q := fun x H1 => gName i x σ H1 D.nx) (show RL X W (dComp2 it (own.map (·.2)) t tt it1 vs1 t1 tt1 e) σ H (fun x H1 => gName i x σ H1 D.nx) from rl_set_go h)
/-! a, b = x, y -/
def sPar2 (i j : Nat) (a b : DE) : DS := fun ρ => lift (dCons a (dCons b dNil) ρ) ρ fun ds => match ds with
  | [x, y] => .ok (.nx ((ρ.set i (.dat x)).set j (.dat y)))
  | _ => stuck
def sPar3 (i j l : Nat) (a b c : DE) : DS := fun ρ => lift (dCons a (dCons b (dCons c dNil)) ρ) ρ fun ds => match ds with
  | [x, y, z] => .ok (.nx (((ρ.set i (.dat x)).set j (.dat y)).set l (.dat z)))
  | _ => stuck
theorem rs_par2 {i j : Nat} {x y : Str} {a b : Expr} {ca cb : DE} {px py pt pos : Pos} {kt k2 pt2} (hc : X.calm = true) (hN : X.N.Nodup) (hi : X.N[i]? = some x) (hj : X.N[j]? = some y) (hij : i ≠ j)
    (hx : X.env.scope.names.lookup x = some .local) (hy : X.env.scope.names.lookup y = some .local) (ha : PA X [a, b] (RA X W (dCons ca (dCons cb dNil))))
    (hw : swappedStores [.Tuple [.Name x px, .Name y py] kt pt] (.Tuple [a, b] k2 pt2) X.env = pure (some [x, y]) := by rfl)
    (hs : swapsWithSole [.Tuple [.Name x px, .Name y py] kt pt] (.Tuple [a, b] k2 pt2) pos.line X.env = pure false := by rfl) :
    PS X (.Assign [.Tuple [.Name x px, .Name y py] kt pt] (.Tuple [a, b] k2 pt2) pos) (RS X G W (sPar2 i j ca cb)) :=
  ps_imp (ps_par hc hN hi hj hij hx hy ha hw hs) fun D σ H ⟨ρ, O, g, p⟩ => ⟨H, ρ, O, g.e, OutR.lift g p fun ds _ p vs H' s r => by
    split at p
    · obtain ⟨v, w, rfl, r1, r2⟩ := reps2' r
      exact ⟨v, w, rfl, p _ H' O (Ext.same s) (((g.to s).set i r1).set j r2)⟩
    · exact p.elim⟩
theorem rs_par3 {i j l : Nat} {x y z : Str} {a b c : Expr} {ca cb cc : DE} {px py pz pt pos : Pos} {kt k2 pt2} (hc : X.calm = true) (hN : X.N.Nodup) (hi : X.N[i]? = some x) (hj : X.N[j]? = some y) (hl : X.N[l]? = some z) (hij : i ≠ j) (hil : i ≠ l) (hjl : j ≠ l)
    (hx : X.env.scope.names.lookup x = some .local) (hy : X.env.scope.names.lookup y = some .local) (hz : X.env.scope.names.lookup z = some .local) (ha : PA X [a, b, c] (RA X W (dCons ca (dCons cb (dCons cc dNil)))))
    (hw : swappedStores [.Tuple [.Name x px, .Name y py, .Name z pz] kt pt] (.Tuple [a, b, c] k2 pt2) X.env = pure (some [x, y, z]) := by rfl)
    (hs : swapsWithSole [.Tuple [.Name x px, .Name y py, .Name z pz] kt pt] (.Tuple [a, b, c] k2 pt2) pos.line X.env = pure false := by rfl) :
    PS X (.Assign [.Tuple [.Name x px, .Name y py, .Name z pz] kt pt] (.Tuple [a, b, c] k2 pt2) pos) (RS X G W (sPar3 i j l ca cb cc)) :=
  ps_imp (ps_par3 hc hN hi hj hl hij hil hjl hx hy hz ha hw hs) fun D σ H ⟨ρ, O, g, p⟩ => ⟨H, ρ, O, g.e, OutR.lift g p fun ds _ p vs H' s r => by
    split at p
    · cases r with
      | cons r1 r =>
        cases r with
        | cons r2 r =>
          cases r with
          | cons r3 r =>
            cases r
            exact ⟨_, _, _, rfl, p _ H' O (Ext.same s) ((((g.to s).set i r1).set j r2).set l r3)⟩
    · exact p.elim⟩
/-! what is never reached -/
def sStuck : DS := fun _ => stuck
theorem rss_stuck {ss : List Stmt} : PSs X ss (RS X G W sStuck) := ⟨fun pins s σ H D I ⟨ρ, O, g, p⟩ => p.elim⟩
theorem rs_stuck {st : Stmt} : PS X st (RS X G W sStuck) := ⟨fun pins s σ H D I ⟨ρ, O, g, p⟩ => p.elim⟩
def dStuck : DE := fun _ => stuck
theorem re_stuck {e : Expr} : PE X e (RE X W dStuck) := ⟨fun pins s σ H Q I ⟨Hb, ρ, O, g, p⟩ => p.elim⟩
/-! list(range(..)), tuple(range(..)) -/
def dRange1 (a : DE) : EnvD → Rs (Int × Int) := fun ρ => a ρ >>= fun x => match x with
  | .int n => .ok (0, n)
  | _ => stuck
def dRange2 (a b : DE) : EnvD → Rs (Int × Int) := fun ρ => a ρ >>= fun x => b ρ >>= fun y => match x, y with
  | .int m, .int n => .ok (m, n)
  | _, _ => stuck
def rgOk (a b : Int) : Bool := decide (-(2 ^ 62) ≤ a ∧ a < 2 ^ 62 ∧ -(2 ^ 62) ≤ b ∧ b < 2 ^ 62 ∧ (b - a).toNat ≤ 2 ^ 24)
def dLstRg (r : EnvD → Rs (Int × Int)) : DL := fun ρ => r ρ >>= fun p => if rgOk p.1 p.2 then .ok (rngL p.1 p.2) else stuck
def dTupRg (r : EnvD → Rs (Int × Int)) : DE := fun ρ => r ρ >>= fun p => if rgOk p.1 p.2 then .ok (.tuple (rngL p.1 p.2)) else stuck
def RRg (X : Cx) (W : WX) (c : EnvD → Rs (Int × Int)) : St → Hp → (Int → Int → Hp → Prop) → Prop := fun σ H Q => ∃ Hb ρ O, GoodE X.K Hb O ρ σ H ∧ Post X W O σ H (c ρ) fun p => ∀ H', Same H H' → Q p.1 p.2 H'
theorem prg_imp {e : Expr} {t t' : St → Hp → (Int → Int → Hp → Prop) → Prop} (h : PRg X e t) (i : ∀ σ H Q, t' σ H Q → t σ H Q) : PRg X e t' := fun pins s σ H Q I q => h pins s σ H Q I (i σ H Q q)
theorem rr_1 {a : Expr} {ca : DE} {p pos : Pos} (hg : Gl X "range") (hm : X.mg "range" = none) (ha : PE X a (RE X W ca)) (na : starEach [a] X.env = (false, eval a X.env) :: starEach [] X.env := by rfl) : PRg X (.Call (.Name "range" p) [a] [] pos) (RRg X W (dRange1 ca)) :=
  prg_imp (prg_1 hg hm ha na) fun σ H Q ⟨Hb, ρ, O, g, p⟩ => RE.go' g p fun d v H1 g1 s1 r1 p1 => by
    cases r1 with
    | int n => exact ⟨n, rfl, p1 H1 s1⟩
    | _ => exact False.elim p1
theorem rr_2 {a b : Expr} {ca cb : DE} {p pos : Pos} (hg : Gl X "range") (hm : X.mg "range" = none) (ha : PE X a (RE X W ca)) (hb : PE X b (RE X W cb)) (na : starEach [a, b] X.env = (false, eval a X.env) :: starEach [b] X.env := by rfl)
    (nb : starEach [b] X.env = (false, eval b X.env) :: starEach [] X.env := by rfl) (hp : (backTo pos (starEach [b] X.env)).any (·.1) = false := by rfl) : PRg X (.Call (.Name "range" p) [a, b] [] pos) (RRg X W (dRange2 ca cb)) :=
  prg_imp (prg_2 hg hm ha hb na nb hp) fun σ H Q ⟨Hb, ρ, O, g, p⟩ => RE.go' g p fun d v H1 g1 s1 r1 p1 => RE.go' g1 p1 fun e u H2 g2 s2 r2 p2 => by
    cases r1 with
    | int m =>
      cases r2 with
      | int n => exact ⟨m, n, rfl, rfl, p2 H2 (s1.trans s2)⟩
      | _ => exact False.elim p2
    | _ => exact False.elim p2
theorem rgV_rep {K : PySem.W.Frag} {H : Hp} {O : Addr → Prop} (a b : Int) : Reps K H O (rgV a b) (rngL a b) := by
  have : ∀ is : List Nat, Reps K H O (is.map fun (i : Nat) => V.int (a + i)) (is.map fun (i : Nat) => PyData.int (a + i)) := by
    intro is
    induction is with
    | nil => exact .nil
    | cons i is ih => exact .cons (.int _) ih
  exact this _
theorem rl_listRg {e : Expr} {c : EnvD → Rs (Int × Int)} {p pos : Pos} (hc : X.calm = true) (hg : Gl X "list") (hm : X.mg "list" = none) (he : PRg X e (RRg X W c)) (na : starEach [e] X.env = (false, eval e X.env) :: starEach [] X.env := by rfl) : PE X (.Call (.Name "list" p) [e] [] pos) (RL X W (dLstRg c)) :=
  pe_imp (pe_listRg hc hg hm he na) fun σ H Q ⟨Hb, ρ, O, g, p⟩ => ⟨Hb, ρ, O, g, p.bind.imp fun ab _ p H' s => by
    split at p
    · rename_i h
      have h := of_decide_eq_true h
      refine ⟨h, fun q hq => p q _ _ (s.trans (same_upd hq)) (s.free hq) upd_same (rgV_rep _ _)⟩
    · exact p.elim⟩
theorem re_tupRg {e : Expr} {c : EnvD → Rs (Int × Int)} {p pos : Pos} (hc : X.calm = true) (hg : Gl X "tuple") (hm : X.mg "tuple" = none) (he : PRg X e (RRg X W c)) (na : starEach [e] X.env = (false, eval e X.env) :: starEach [] X.env := by rfl) : PE X (.Call (.Name "tuple" p) [e] [] pos) (RE X W (dTupRg c)) :=
  pe_imp (pe_tupRg hc hg hm he na) fun σ H Q ⟨Hb, ρ, O, g, p⟩ => ⟨Hb, ρ, O, g, p.bind.imp fun ab _ p H' s => by
    split at p
    · rename_i h
      have h := of_decide_eq_true h
      refine ⟨h, fun q hq => p _ _ (s.trans (same_upd hq)) (.tup (.inl ⟨.inl upd_same, no_own (fun a ha => ?_) hq⟩) (RepAll.iff.mpr (rgV_rep _ _)))⟩
      obtain ⟨o, e⟩ := g.dom a ha
      exact ⟨o, s a o e⟩
    · exact p.elim⟩
end
/-! ### the law -/
def spLaw (K : PySem.W.Frag) : Sp := fun vs H Q _ => ∃ (a : Addr) (ns : List Int), vs = [.ref a] ∧ SqL K H a (ns.map V.int) ∧ ns.length ≤ 63 ∧ ∀ H', Q (.bl true) H'
theorem law_imp {K : PySem.W.Frag} {mg : Str → Option Value} {f : List PyData → Rs PyData} (h : ∀ ns : List Int, ns.length ≤ 63 → f [.list (ns.map .int)] = .ok (.bool true)) : ∀ vs H Q E, spLaw K vs H Q E → spD K mg [true] f vs H Q E := by
  rintro vs H Q E ⟨a, ns, rfl, hs, hl, q⟩
  refine ⟨fun _ => False, [.list (ns.map .int)], fun _ h => h.elim, .cons (show RepB K H _ _ _ from .inr ⟨a, _, _, rfl, rfl, hs, pr_ints ns⟩) .nil, ?_⟩
  rw [h ns hl]
  intro v H' s r
  cases r
  exact q H'
theorem kit_ref {K : PySem.W.Frag} {C D : Addr} {b : Bool} (hd : PySem.W.hasDictIn K D = true) (ht : PySem.W.typeIn K (.ref D) = some (.type "type")) (hs : PySem.W.subIn K (.ref D) (.ref D) = some true) (h : PySem.W.subIn K (.ref C) (.ref D) = some b) : PySem.W.kitOne K (.ref C) (.ref D) = some b := by
  unfold PySem.W.kitOne
  by_cases e : C = D
  · subst e
    rw [hs] at h
    cases h
    rw [if_pos (by simp)]
  · rw [if_neg (by simpa using e)]
    obtain ⟨cd, hc, _⟩ := PySem.W.any_some hd
    show (if ((PySem.W.clsIn K D).isSome && PySem.W.typeIn K (.ref D) == some (.type "type")) = true then PySem.W.subIn K (.ref C) (.ref D) else none) = some b
    rw [if_pos (by rw [hc, ht]; rfl)]
    exact h
theorem cx_never {P : Program} {w : World} {H : Hp} {s : Shared} {e : Value} {s' : Shared} (h : L2.CX P w [] H s (fun _ _ _ => False) e s') : False := by
  obtain ⟨_, _, _, _, _, _, _, _, _, _, _, _, z⟩ := h
  exact z
end Den

set_option Elab.async false
set_option linter.all false
set_option maxRecDepth 100000
set_option maxHeartbeats 4000000
namespace Nk52
open PySem PySem.Spec PyProof.Rows L2 Den
def subE : String → String → Option Bool
  | "BadLoads", "BadLoads" => some true
  | "BadLoads", "BadSeats" => some false
  | "BadLoads", "BadStowing" => some false
  | "BadLoads", "ChestError" => some true
  | "BadMost", "BadLoads" => some false
  | "BadMost", "BadSeats" => some false
  | "BadMost", "BadStowing" => some false
  | "BadMost", "ChestError" => some true
  | "BadSeats", "BadLoads" => some false
  | "BadSeats", "BadSeats" => some true
  | "BadSeats", "BadStowing" => some false
  | "BadSeats", "ChestError" => some true
  | "BadStowing", "BadLoads" => some false
  | "BadStowing", "BadSeats" => some false
  | "BadStowing", "BadStowing" => some true
  | "BadStowing", "ChestError" => some true
  | _, _ => none
/-- _law_draws(script, many); slots: 0 script 1 many 2 draws 3 seed 4 cell 5 number 6 k -/
def bd__law_draws : DS :=
  (sSeq (sOwn 2 (dList dNil))
    (sSeq (sSet 3 (dLit (.int 7)))
    (sSeq (sFor (iD (dSl slD (dVarB 0) oNone (oSome (dLit (.int 63))))) (.nm 4) (sSeq (sSet 5 (dCall absD (dCons (dVar 4) dNil)))
    (sSeq (sSet 3 (dOp2 modD (dCall intD (dCons (dOp2 addD (dOp2 addD (dOp2 mulD (dVar 3) (dLit (.int 48271))) (dVar 5)) (dLit (.int 11))) dNil)) (dLit (.int 2147483647))))
    (sIf (tVal (dOp2 geD (dVar 5) (dOp2 powD (dLit (.int 10)) (dLit (.int 18))))) (sFor (dCallL range1D (dCons (dLit (.int 60)) dNil)) (.nm 6) (sIf (tVal (dOp2 gtD (dVar 5) (dLit (.int 0)))) (sSeq (sUpd 2 (dCons (dOp2 modD (dCall intD (dCons (dVar 5) dNil)) (dLit (.int 1009))) dNil) appF)
    (sSet 5 (dOp2 fdivD (dVar 5) (dLit (.int 1009))))) sSkip)) (sUpd 2 (dCons (dOp2 modD (dOp2 fdivD (dCall intD (dCons (dOp2 addD (dOp2 mulD (dVar 3) (dLit (.int 16807))) (dLit (.int 5))) dNil)) (dLit (.int 3))) (dLit (.int 65521))) dNil) appF)))))
    (sSeq (sFor (dCallL range1D (dCons (dVar 1) dNil)) (.nm 6) (sIf (tVal (dOp2 ltD (dCall lenD (dCons (dVarB 2) dNil)) (dVar 1))) (sSeq (sSet 3 (dOp2 modD (dCall intD (dCons (dOp2 addD (dOp2 addD (dOp2 mulD (dVar 3) (dLit (.int 69621))) (dVar 6)) (dLit (.int 1))) dNil)) (dLit (.int 2147483647))))
    (sUpd 2 (dCons (dOp2 modD (dOp2 fdivD (dCall intD (dCons (dVar 3) dNil)) (dLit (.int 7))) (dLit (.int 65521))) dNil) appF)) sSkip))
    (sRet (dSl slD (dVarB 2) oNone (oSome (dVar 1))))))))
def cf__law_draws : List PyData → Rs PyData := fnD [true, false] 7 bd__law_draws
/-- _boarding(loads, stowing, most); slots: 0 loads 1 stowing 2 most 3 good 4 group 5 one 6 rest 7 nexts 8 order -/
def bd__boarding : DS :=
  sStuck
def cf__boarding : List PyData → Rs PyData := fnD [false, false, false] 9 bd__boarding
/-- ascends(values); slots: 0 values 1 one 2 later -/
def bd_ascends : DS :=
  (sRet (dCall allD (dCons (dLst (dComp (dCallL zipD (dCons (dVar 0) (dCons (dSl slD (dVar 0) (oSome (dLit (.int 1))) oNone) dNil))) [1, 2] (.tp [(.nm 1), (.nm 2)]) tYesD (dOp2 ltD (dVar 1) (dVar 2)))) dNil)))
def cf_ascends : List PyData → Rs PyData := fnD [false] 3 bd_ascends
/-- is_whole(value, least, most); slots: 0 value 1 least 2 most -/
def bd_is_whole : DS :=
  (sRet (dAndV (dIsi "int" (dVar 0)) (dAndV (dNotV (dIsi "bool" (dVar 0))) (dChain leD leD (dVar 1) (dVar 0) (dVar 2)))))
def cf_is_whole : List PyData → Rs PyData := fnD [false, false, false] 3 bd_is_whole
/-- _check(loads, seats); slots: 0 loads 1 seats 2 one -/
def bd__check : DS :=
  (sSeq (sIf (tOrD (tNotD (tVal (dIsi "tuple" (dVar 1)))) (tNotD (tVal (dChain leD leD (dLit (.int 1)) (dCall lenD (dCons (dVar 1) dNil)) (dLit (.int 8)))))) (sRaise "BadSeats") sSkip)
    (sSeq (sIf (tOrD (tNotD (tVal (dCall allD (dCons (dLst (dComp (iD (dVar 1)) [2] (.nm 2) tYesD (dCall cf_is_whole (dCons (dVar 2) (dCons (dOp2 subD (dLit (.int 0)) (dLit (.int 20))) (dCons (dLit (.int 20)) dNil)))))) dNil)))) (tNotD (tVal (dCall cf_ascends (dCons (dVar 1) dNil))))) (sRaise "BadSeats") sSkip)
    (sSeq (sIf (tOrD (tNotD (tVal (dIsi "tuple" (dVar 0)))) (tNotD (tVal (dChain leD leD (dLit (.int 1)) (dCall lenD (dCons (dVar 0) dNil)) (dCall minD (dCons (dLit (.int 6)) (dCons (dCall lenD (dCons (dVar 1) dNil)) dNil))))))) (sRaise "BadLoads") sSkip)
    (sIf (tNotD (tVal (dCall allD (dCons (dLst (dComp (iD (dVar 0)) [2] (.nm 2) tYesD (dCall cf_is_whole (dCons (dVar 2) (dCons (dLit (.int 1)) (dCons (dLit (.int 100)) dNil)))))) dNil)))) (sRaise "BadLoads") sSkip))))
def cf__check : List PyData → Rs PyData := fnD [false, false] 3 bd__check
/-- _check_stowing(loads, seats, stowing); slots: 0 loads 1 seats 2 stowing 3 one -/
def bd__check_stowing : DS :=
  (sSeq (sDrop (dCall cf__check (dCons (dVar 0) (dCons (dVar 1) dNil))))
    (sSeq (sIf (tOrD (tNotD (tVal (dIsi "tuple" (dVar 2)))) (tVal (dOp2 neD (dCall lenD (dCons (dVar 2) dNil)) (dCall lenD (dCons (dVar 0) dNil))))) (sRaise "BadStowing") sSkip)
    (sSeq (sIf (tNotD (tVal (dCall allD (dCons (dLst (dComp (iD (dVar 2)) [3] (.nm 3) tYesD (dAndV (dCall cf_is_whole (dCons (dVar 3) (dCons (dOp2 subD (dLit (.int 0)) (dLit (.int 20))) (dCons (dLit (.int 20)) dNil)))) (dOp2 inD (dVar 3) (dVar 1))))) dNil)))) (sRaise "BadStowing") sSkip)
    (sIf (tVal (dOp2 ltD (dLenDc (dDc (iD (dVar 2)) [3] (.nm 3) tYesD (dVar 3) (dLit (.bool true)))) (dCall lenD (dCons (dVar 2) dNil)))) (sRaise "BadStowing") sSkip))))
def cf__check_stowing : List PyData → Rs PyData := fnD [false, false, false] 4 bd__check_stowing
/-- boarding(loads, seats, stowing, most); slots: 0 loads 1 seats 2 stowing 3 most -/
def bd_boarding : DS :=
  (sSeq (sDrop (dCall cf__check_stowing (dCons (dVar 0) (dCons (dVar 1) (dCons (dVar 2) dNil)))))
    (sSeq (sIf (tNotD (tVal (dCall cf_is_whole (dCons (dVar 3) (dCons (dLit (.int 0)) (dCons (dLit (.int 100000)) dNil)))))) (sRaise "BadMost") sSkip)
    (sRet (dCall cf__boarding (dCons (dVar 0) (dCons (dVar 2) (dCons (dVar 3) dNil)))))))
def cf_boarding : List PyData → Rs PyData := fnD [false, false, false, false] 4 bd_boarding
/-- _stowings(loads, seats); slots: 0 loads 1 seats 2 rows 3 _load 4 row 5 seat -/
def bd__stowings : DS :=
  (sSeq (sSet 2 (dLst (dList (dCons (dTup dNil) dNil))))
    (sSeq (sFor (iD (dVar 0)) (.nm 3) (sSet 2 (dLst (dComp2 (iD (dVar 2)) [4, 5] (.nm 4) tYesD (iD (dVar 1)) [5] (.nm 5) (tVal (dOp2 notInD (dVar 5) (dVar 4))) (dOp2 addD (dVar 4) (dTup (dCons (dVar 5) dNil)))))))
    (sRet (dVar 2))))
def cf__stowings : List PyData → Rs PyData := fnD [false, false] 6 bd__stowings
/-- _tilt(loads, stowing); slots: 0 loads 1 stowing 2 load 3 seat -/
def bd__tilt : DS :=
  (sRet (dCall sumD (dCons (dLst (dComp (dCallL zipD (dCons (dVar 0) (dCons (dVar 1) dNil))) [2, 3] (.tp [(.nm 2), (.nm 3)]) tYesD (dOp2 mulD (dVar 2) (dVar 3)))) dNil)))
def cf__tilt : List PyData → Rs PyData := fnD [false, false] 4 bd__tilt
/-- count_level(loads, seats); slots: 0 loads 1 seats 2 row -/
def bd_count_level : DS :=
  (sSeq (sDrop (dCall cf__check (dCons (dVar 0) (dCons (dVar 1) dNil))))
    (sRet (dCall lenD (dCons (dLst (dComp (iD (dCall cf__stowings (dCons (dVar 0) (dCons (dVar 1) dNil)))) [2] (.nm 2) (tVal (dOp2 eqD (dCall cf__tilt (dCons (dVar 0) (dCons (dVar 2) dNil))) (dLit (.int 0)))) (dVar 2))) dNil))))
def cf_count_level : List PyData → Rs PyData := fnD [false, false] 3 bd_count_level
/-- least_tilt(loads, seats); slots: 0 loads 1 seats 2 rows 3 row 4 tilt -/
def bd_least_tilt : DS :=
  (sSeq (sDrop (dCall cf__check (dCons (dVar 0) (dCons (dVar 1) dNil))))
    (sSeq (sSet 2 (dLst (dComp (iD (dCall cf__stowings (dCons (dVar 0) (dCons (dVar 1) dNil)))) [3] (.nm 3) tYesD (dTup (dCons (dCall cf__tilt (dCons (dVar 0) (dCons (dVar 3) dNil))) (dCons (dVar 3) dNil))))))
    (sRet (dSl slD (dCall minD (dCons (dLst (dComp (iD (dVar 2)) [4, 3] (.tp [(.nm 4), (.nm 3)]) tYesD (dTup (dCons (dCall absD (dCons (dVar 4) dNil)) (dCons (dVar 4) (dCons (dVar 3) dNil)))))) dNil)) (oSome (dLit (.int 1))) oNone))))
def cf_least_tilt : List PyData → Rs PyData := fnD [false, false] 5 bd_least_tilt
/-- steadiest(loads, seats, stowing); slots: 0 loads 1 seats 2 stowing 3 tilts 4 group 5 one 6 most 7 order -/
def bd_steadiest : DS :=
  (sSeq (sDrop (dCall cf__check_stowing (dCons (dVar 0) (dCons (dVar 1) (dCons (dVar 2) dNil))))) sStuck)
def cf_steadiest : List PyData → Rs PyData := fnD [false, false, false] 8 bd_steadiest
/-- tilt_of(loads, seats, stowing); slots: 0 loads 1 seats 2 stowing -/
def bd_tilt_of : DS :=
  (sSeq (sDrop (dCall cf__check_stowing (dCons (dVar 0) (dCons (dVar 1) (dCons (dVar 2) dNil)))))
    (sRet (dCall cf__tilt (dCons (dVar 0) (dCons (dVar 2) dNil)))))
def cf_tilt_of : List PyData → Rs PyData := fnD [false, false, false] 3 bd_tilt_of
/-- _law_error(way, loads, seats, stowing); slots: 0 way 1 loads 2 seats 3 stowing 4 e -/
def bd__law_error : DS :=
  (sSeq (sTry subE (sIf (tVal (dOp2 eqD (dVar 0) (dLit (.int 0)))) (sDrop (dCall cf_tilt_of (dCons (dVar 1) (dCons (dVar 2) (dCons (dVar 3) dNil))))) (sIf (tVal (dOp2 eqD (dVar 0) (dLit (.int 1)))) (sDrop (dCall cf_boarding (dCons (dVar 1) (dCons (dVar 2) (dCons (dVar 3) (dCons (dLit (.int 0)) dNil)))))) (sIf (tVal (dOp2 eqD (dVar 0) (dLit (.int 2)))) (sDrop (dCall cf_steadiest (dCons (dVar 1) (dCons (dVar 2) (dCons (dVar 3) dNil))))) (sIf (tVal (dOp2 eqD (dVar 0) (dLit (.int 3)))) (sDrop (dCall cf_least_tilt (dCons (dVar 1) (dCons (dVar 2) dNil)))) (sDrop (dCall cf_count_level (dCons (dVar 1) (dCons (dVar 2) dNil)))))))) [⟨"BadSeats", none, (fun _ _ => (sRet (dLit (.str "seats"))))⟩, ⟨"BadLoads", none, (fun _ _ => (sRet (dLit (.str "loads"))))⟩, ⟨"ChestError", some 4, (fun n p => sIsi (subE n "BadStowing") p (dLit (.str "stowing")) (dLit (.str "other")))⟩])
    (sRet (dLit (.str "none"))))
def cf__law_error : List PyData → Rs PyData := fnD [false, false, false, false] 5 bd__law_error
/-- _law_every(loads, seats); slots: 0 loads 1 seats 2 rows 3 load 4 longer 5 row 6 seat -/
def bd__law_every : DS :=
  (sSeq (sSet 2 (dLst (dList (dCons (dTup dNil) dNil))))
    (sSeq (sFor (iD (dVar 0)) (.nm 3) (sSeq (sSet 4 (dLst (dList dNil)))
    (sSeq (sFor (iD (dVar 2)) (.nm 5) (sSet 4 (dOp2 addD (dVar 4) (dLst (dComp (iD (dVar 1)) [6] (.nm 6) (tVal (dOp2 notInD (dVar 6) (dVar 5))) (dOp2 addD (dVar 5) (dTup (dCons (dVar 6) dNil))))))))
    (sSet 2 (dVar 4)))))
    (sRet (dVar 2))))
def cf__law_every : List PyData → Rs PyData := fnD [false, false] 7 bd__law_every
/-- _law_seats(draws, many); slots: 0 draws 1 many 2 k -/
def bd__law_seats : DS :=
  (sRet (dCall tupleD (dCons (dLst (dSortSet (dLst (dComp (dCallL range1D (dCons (dOp2 addD (dVar 1) (dOp2 modD (dCall intD (dCons (dOp2 ixD (dVar 0) (dLit (.int 0))) dNil)) (dLit (.int 3)))) dNil)) [2] (.nm 2) tYesD (dOp2 subD (dOp2 modD (dCall intD (dCons (dOp2 ixD (dVar 0) (dOp2 addD (dLit (.int 1)) (dVar 2))) dNil)) (dLit (.int 21))) (dLit (.int 10))))))) dNil)))
def cf__law_seats : List PyData → Rs PyData := fnD [false, false] 3 bd__law_seats
/-- _law_sum(loads, stowing); slots: 0 loads 1 stowing 2 k -/
def bd__law_sum : DS :=
  (sRet (dCall sumD (dCons (dLst (dComp (dCallL range1D (dCons (dCall lenD (dCons (dVar 0) dNil)) dNil)) [2] (.nm 2) tYesD (dOp2 mulD (dOp2 ixD (dVar 0) (dVar 2)) (dOp2 ixD (dVar 1) (dVar 2))))) dNil)))
def cf__law_sum : List PyData → Rs PyData := fnD [false, false] 3 bd__law_sum
/-- law(script); slots: 0 script 1 draws 2 turn 3 seats 4 loads 5 k 6 rows 7 tilts 8 row 9 best 10 tilt 11 mirror 12 seat 13 told 14 wrong 15 way -/
def s1_law : DS := (sIf (tVal (dOp2 neD (dCall cf_tilt_of (dCons (dVar 4) (dCons (dVar 3) (dCons (dVar 8) dNil)))) (dCall cf__law_sum (dCons (dVar 4) (dCons (dVar 8) dNil))))) (sRet (dLit (.bool false))) sSkip)
def s2_law : DS := (sIf (tVal (dOp2 neD (dLst (dComp (dCallL range1D (dCons (dLit (.int 5)) dNil)) [15] (.nm 15) tYesD (dCall cf__law_error (dCons (dVar 15) (dCons (dVar 4) (dCons (dVar 14) (dCons (dLit .none) dNil))))))) (dOp2 mulD (dLst (dList (dCons (dLit (.str "seats")) dNil))) (dLit (.int 5))))) (sRet (dLit (.bool false))) sSkip)
def s3_law : DS := (sIf (tVal (dOp2 neD (dLst (dComp (dCallL range1D (dCons (dLit (.int 5)) dNil)) [15] (.nm 15) tYesD (dCall cf__law_error (dCons (dVar 15) (dCons (dVar 14) (dCons (dVar 3) (dCons (dLit .none) dNil))))))) (dOp2 mulD (dLst (dList (dCons (dLit (.str "loads")) dNil))) (dLit (.int 5))))) (sRet (dLit (.bool false))) sSkip)
def s4_law : DS := (sIf (tVal (dOp2 neD (dLst (dComp (dCallL range1D (dCons (dLit (.int 3)) dNil)) [15] (.nm 15) tYesD (dCall cf__law_error (dCons (dVar 15) (dCons (dVar 4) (dCons (dVar 3) (dCons (dVar 14) dNil))))))) (dOp2 mulD (dLst (dList (dCons (dLit (.str "stowing")) dNil))) (dLit (.int 3))))) (sRet (dLit (.bool false))) sSkip)
def s5_law : DS := (sSet 3 (dCall cf__law_seats (dCons (dSl slD (dVar 1) (oSome (dOp2 mulD (dLit (.int 7)) (dVar 2))) oNone) (dCons (dLit (.int 4)) dNil))))
def s6_law : DS := (sSet 4 (dCall tupleD (dCons (dLst (dComp (dCallL range1D (dCons (dCall minD (dCons (dCall lenD (dCons (dVar 3) dNil)) (dCons (dOp2 addD (dLit (.int 1)) (dOp2 modD (dCall intD (dCons (dOp2 ixD (dVar 1) (dOp2 addD (dLit (.int 50)) (dVar 2))) dNil)) (dLit (.int 5)))) dNil))) dNil)) [5] (.nm 5) tYesD (dOp2 addD (dLit (.int 1)) (dOp2 modD (dCall intD (dCons (dOp2 ixD (dVar 1) (dOp2 addD (dLit (.int 40)) (dVar 5))) dNil)) (dLit (.int 30)))))) dNil)))
def s7_law : DS := (sSet 6 (dCall cf__law_every (dCons (dVar 4) (dCons (dVar 3) dNil))))
def s8_law : DS := (sSet 7 (dLst (dComp (iD (dVar 6)) [8] (.nm 8) tYesD (dTup (dCons (dCall cf__law_sum (dCons (dVar 4) (dCons (dVar 8) dNil))) (dCons (dVar 8) dNil))))))
def s9_law : DS := (sSet 9 (dCall minD (dCons (dLst (dComp (iD (dVar 7)) [10, 8] (.tp [(.nm 10), (.nm 8)]) tYesD (dTup (dCons (dCall maxD (dCons (dVar 10) (dCons (dOp2 subD (dLit (.int 0)) (dVar 10)) dNil))) (dCons (dVar 10) (dCons (dVar 8) dNil)))))) dNil)))
def s10_law : DS := (sIf (tOrD (tVal (dOp2 neD (dCall cf_least_tilt (dCons (dVar 4) (dCons (dVar 3) dNil))) (dSl slD (dVar 9) (oSome (dLit (.int 1))) oNone))) (tVal (dOp2 neD (dCall cf_count_level (dCons (dVar 4) (dCons (dVar 3) dNil))) (dCall lenD (dCons (dLst (dComp (iD (dVar 7)) [10, 8] (.tp [(.nm 10), (.nm 8)]) (tVal (dOp2 eqD (dVar 10) (dLit (.int 0)))) (dVar 10))) dNil))))) (sRet (dLit (.bool false))) sSkip)
def s11_law : DS := (sFor (iD (dTup (dCons (dOp2 ixD (dVar 6) (dLit (.int 0))) (dCons (dOp2 ixD (dVar 6) (dOp1 negD (dLit (.int 1)))) (dCons (dOp2 ixD (dVar 6) (dOp2 modD (dCall intD (dCons (dOp2 ixD (dVar 1) (dOp2 addD (dLit (.int 30)) (dVar 2))) dNil)) (dCall lenD (dCons (dVar 6) dNil)))) dNil))))) (.nm 8) s1_law)
def s12_law : DS := (sSet 11 (dCall tupleD (dCons (dLst (dComp (iD (dSt stD (dVar 3) (oSome (dOp1 negD (dLit (.int 1)))))) [12] (.nm 12) tYesD (dOp2 subD (dLit (.int 0)) (dVar 12)))) dNil)))
def s13_law : DS := (sSet 13 (dCall cf_least_tilt (dCons (dVar 4) (dCons (dVar 11) dNil))))
def s14_law : DS := (sIf (tOrD (tVal (dOp2 neD (dCall maxD (dCons (dOp2 ixD (dVar 13) (dLit (.int 0))) (dCons (dOp2 subD (dLit (.int 0)) (dOp2 ixD (dVar 13) (dLit (.int 0)))) dNil))) (dOp2 ixD (dVar 9) (dLit (.int 0))))) (tOrD (tVal (dOp2 neD (dCall cf_count_level (dCons (dVar 4) (dCons (dVar 11) dNil))) (dCall cf_count_level (dCons (dVar 4) (dCons (dVar 3) dNil))))) (tVal (dOp2 neD (dCall cf_tilt_of (dCons (dVar 4) (dCons (dVar 11) (dCons (dCall tupleD (dCons (dLst (dComp (iD (dOp2 ixD (dVar 6) (dLit (.int 0)))) [12] (.nm 12) tYesD (dOp2 subD (dLit (.int 0)) (dVar 12)))) dNil)) dNil)))) (dOp2 subD (dLit (.int 0)) (dOp2 ixD (dOp2 ixD (dVar 7) (dLit (.int 0))) (dLit (.int 0)))))))) (sRet (dLit (.bool false))) sSkip)
def s15_law : DS := (sFor (iD (dLst (dList (dCons (dLit .none) (dCons (dLst (dCallL listD (dCons (dVar 3) dNil))) (dCons (dTup dNil) (dCons (dIf (tVal (dOp2 gtD (dCall lenD (dCons (dVar 3) dNil)) (dLit (.int 1)))) (dSt stD (dVar 3) (oSome (dOp1 negD (dLit (.int 1))))) (dLit (.int 7))) (dCons (dOp2 addD (dVar 3) (dSl slD (dVar 3) (oSome (dOp1 negD (dLit (.int 1)))) oNone)) (dCons (dOp2 addD (dTup (dCons (dOp1 negD (dLit (.int 21))) dNil)) (dVar 3)) (dCons (dOp2 addD (dVar 3) (dTup (dCons (dLit (.int 21)) dNil))) (dCons (dTup (dCons (dLit (.bool true)) dNil)) (dCons (dTup (dCons (dLit .none) dNil)) (dCons (dCall tupleD (dCons (dLst (dLstRg (dRange1 (dLit (.int 9))))) dNil)) (dCons (dLit (.int 7)) dNil)))))))))))))) (.nm 14) s2_law)
def s16_law : DS := (sFor (iD (dLst (dList (dCons (dLit .none) (dCons (dLst (dCallL listD (dCons (dVar 4) dNil))) (dCons (dTup dNil) (dCons (dOp2 addD (dTup (dCons (dLit (.int 0)) dNil)) (dSl slD (dVar 4) (oSome (dLit (.int 1))) oNone)) (dCons (dOp2 addD (dTup (dCons (dLit (.int 101)) dNil)) (dSl slD (dVar 4) (oSome (dLit (.int 1))) oNone)) (dCons (dOp2 addD (dTup (dCons (dLit (.bool true)) dNil)) (dSl slD (dVar 4) (oSome (dLit (.int 1))) oNone)) (dCons (dOp2 addD (dTup (dCons (dLit (.str "1")) dNil)) (dSl slD (dVar 4) (oSome (dLit (.int 1))) oNone)) (dCons (dOp2 mulD (dTup (dCons (dLit (.int 1)) dNil)) (dOp2 addD (dCall lenD (dCons (dVar 3) dNil)) (dLit (.int 1)))) (dCons (dOp2 mulD (dTup (dCons (dLit (.int 1)) dNil)) (dLit (.int 7))) (dCons (dLit (.int 7)) dNil))))))))))))) (.nm 14) s3_law)
def s17_law : DS := (sSet 8 (dOp2 ixD (dVar 6) (dLit (.int 0))))
def s18_law : DS := (sFor (iD (dLst (dList (dCons (dLit .none) (dCons (dLst (dCallL listD (dCons (dVar 8) dNil))) (dCons (dSl slD (dVar 8) (oSome (dLit (.int 1))) oNone) (dCons (dOp2 addD (dVar 8) (dTup (dCons (dLit (.int 99)) dNil))) (dCons (dOp2 addD (dTup (dCons (dLit (.int 99)) dNil)) (dSl slD (dVar 8) (oSome (dLit (.int 1))) oNone)) (dCons (dOp2 addD (dTup (dCons (dLit .none) dNil)) (dSl slD (dVar 8) (oSome (dLit (.int 1))) oNone)) (dCons (dIf (tVal (dOp2 gtD (dCall lenD (dCons (dVar 8) dNil)) (dLit (.int 1)))) (dOp2 mulD (dSl slD (dVar 8) oNone (oSome (dLit (.int 1)))) (dCall lenD (dCons (dVar 8) dNil))) (dLit (.int 7))) (dCons (dOp2 addD (dTup (dCons (dLit (.bool true)) dNil)) (dSl slD (dVar 8) (oSome (dLit (.int 1))) oNone)) (dCons (dLit (.int 7)) dNil)))))))))))) (.nm 14) s4_law)
def s19_law : DS := (sSet 1 (dCall cf__law_draws (dCons (dVarB 0) (dCons (dLit (.int 60)) dNil))))
def s20_law : DS := (sFor (dCallL range1D (dCons (dLit (.int 5)) dNil)) (.nm 2) (sSeq s5_law
    (sSeq s6_law
    (sSeq s7_law
    (sSeq s8_law
    (sSeq s9_law
    (sSeq s10_law
    (sSeq s11_law
    (sSeq s12_law
    (sSeq s13_law
    (sSeq s14_law
    (sSeq s15_law
    (sSeq s16_law
    (sSeq s17_law
    s18_law))))))))))))))
def s21_law : DS := (sIf (tVal (dOp2 neD (dCall cf_least_tilt (dCons (dTup (dCons (dLit (.int 5)) (dCons (dLit (.int 3)) dNil))) (dCons (dTup (dCons (dOp1 negD (dLit (.int 2))) (dCons (dOp1 negD (dLit (.int 1))) (dCons (dLit (.int 1)) (dCons (dLit (.int 3)) dNil))))) dNil))) (dTup (dCons (dOp1 negD (dLit (.int 1))) (dCons (dTup (dCons (dOp1 negD (dLit (.int 2))) (dCons (dLit (.int 3)) dNil))) dNil))))) (sRet (dLit (.bool false))) sSkip)
def s22_law : DS := (sRet (dAndV (dOp2 eqD (dCall cf_least_tilt (dCons (dTup (dCons (dLit (.int 2)) (dCons (dLit (.int 1)) dNil))) (dCons (dTup (dCons (dOp1 negD (dLit (.int 1))) (dCons (dLit (.int 2)) dNil))) dNil))) (dTup (dCons (dLit (.int 0)) (dCons (dTup (dCons (dOp1 negD (dLit (.int 1))) (dCons (dLit (.int 2)) dNil))) dNil)))) (dAndV (dOp2 eqD (dCall cf_count_level (dCons (dTup (dCons (dLit (.int 1)) (dCons (dLit (.int 1)) dNil))) (dCons (dTup (dCons (dOp1 negD (dLit (.int 1))) (dCons (dLit (.int 1)) dNil))) dNil))) (dLit (.int 2))) (dOp2 eqD (dCall cf_tilt_of (dCons (dTup (dCons (dLit (.int 4)) (dCons (dLit (.int 2)) dNil))) (dCons (dTup (dCons (dOp1 negD (dLit (.int 3))) (dCons (dLit (.int 0)) (dCons (dLit (.int 5)) dNil)))) (dCons (dTup (dCons (dLit (.int 5)) (dCons (dOp1 negD (dLit (.int 3))) dNil))) dNil)))) (dLit (.int 14))))))
def bd_law : DS :=
  (sSeq s19_law
    (sSeq s20_law
    (sSeq s21_law
    s22_law)))
def cf_law : List PyData → Rs PyData := fnD [true] 16 bd_law
end Nk52

set_option Elab.async false
set_option linter.all false
set_option maxRecDepth 100000
set_option maxHeartbeats 4000000
namespace Nk52
open PySem PySem.Spec PyProof.Rows L2 Den
def topS (i : Nat) : Stmt := PySem.Challenge.pw_chestwright_k52_whole_tilts.main.body.getD i (.Pass ⟨0, 0, 0, 0⟩)
structure Txt (K : PySem.W.Frag) (mg : Str → Option Value) where
  a__law_draws : Addr
  d__law_draws : FuncData
  g__law_draws : mg "_law_draws" = some (.ref a__law_draws)
  F__law_draws : Fun K "_law_draws" "_law_draws" (topS 27) a__law_draws d__law_draws
  b__law_draws : Binds K d__law_draws ["script", "many"] []
  a__boarding : Addr
  d__boarding : FuncData
  g__boarding : mg "_boarding" = some (.ref a__boarding)
  F__boarding : Fun K "_boarding" "_boarding" (topS 22) a__boarding d__boarding
  b__boarding : Binds K d__boarding ["loads", "stowing", "most"] []
  a_ascends : Addr
  d_ascends : FuncData
  g_ascends : mg "ascends" = some (.ref a_ascends)
  F_ascends : Fun K "ascends" "ascends" (topS 8) a_ascends d_ascends
  b_ascends : Binds K d_ascends ["values"] []
  a_is_whole : Addr
  d_is_whole : FuncData
  g_is_whole : mg "is_whole" = some (.ref a_is_whole)
  F_is_whole : Fun K "is_whole" "is_whole" (topS 7) a_is_whole d_is_whole
  b_is_whole : Binds K d_is_whole ["value", "least", "most"] []
  a__check : Addr
  d__check : FuncData
  g__check : mg "_check" = some (.ref a__check)
  F__check : Fun K "_check" "_check" (topS 15) a__check d__check
  b__check : Binds K d__check ["loads", "seats"] []
  a__check_stowing : Addr
  d__check_stowing : FuncData
  g__check_stowing : mg "_check_stowing" = some (.ref a__check_stowing)
  F__check_stowing : Fun K "_check_stowing" "_check_stowing" (topS 16) a__check_stowing d__check_stowing
  b__check_stowing : Binds K d__check_stowing ["loads", "seats", "stowing"] []
  a_boarding : Addr
  d_boarding : FuncData
  g_boarding : mg "boarding" = some (.ref a_boarding)
  F_boarding : Fun K "boarding" "boarding" (topS 24) a_boarding d_boarding
  b_boarding : Binds K d_boarding ["loads", "seats", "stowing", "most"] []
  a__stowings : Addr
  d__stowings : FuncData
  g__stowings : mg "_stowings" = some (.ref a__stowings)
  F__stowings : Fun K "_stowings" "_stowings" (topS 19) a__stowings d__stowings
  b__stowings : Binds K d__stowings ["loads", "seats"] []
  a__tilt : Addr
  d__tilt : FuncData
  g__tilt : mg "_tilt" = some (.ref a__tilt)
  F__tilt : Fun K "_tilt" "_tilt" (topS 17) a__tilt d__tilt
  b__tilt : Binds K d__tilt ["loads", "stowing"] []
  a_count_level : Addr
  d_count_level : FuncData
  g_count_level : mg "count_level" = some (.ref a_count_level)
  F_count_level : Fun K "count_level" "count_level" (topS 21) a_count_level d_count_level
  b_count_level : Binds K d_count_level ["loads", "seats"] []
  a_least_tilt : Addr
  d_least_tilt : FuncData
  g_least_tilt : mg "least_tilt" = some (.ref a_least_tilt)
  F_least_tilt : Fun K "least_tilt" "least_tilt" (topS 20) a_least_tilt d_least_tilt
  b_least_tilt : Binds K d_least_tilt ["loads", "seats"] []
  a_steadiest : Addr
  d_steadiest : FuncData
  g_steadiest : mg "steadiest" = some (.ref a_steadiest)
  F_steadiest : Fun K "steadiest" "steadiest" (topS 25) a_steadiest d_steadiest
  b_steadiest : Binds K d_steadiest ["loads", "seats", "stowing"] []
  a_tilt_of : Addr
  d_tilt_of : FuncData
  g_tilt_of : mg "tilt_of" = some (.ref a_tilt_of)
  F_tilt_of : Fun K "tilt_of" "tilt_of" (topS 18) a_tilt_of d_tilt_of
  b_tilt_of : Binds K d_tilt_of ["loads", "seats", "stowing"] []
  a__law_error : Addr
  d__law_error : FuncData
  g__law_error : mg "_law_error" = some (.ref a__law_error)
  F__law_error : Fun K "_law_error" "_law_error" (topS 31) a__law_error d__law_error
  b__law_error : Binds K d__law_error ["way", "loads", "seats", "stowing"] []
  a__law_every : Addr
  d__law_every : FuncData
  g__law_every : mg "_law_every" = some (.ref a__law_every)
  F__law_every : Fun K "_law_every" "_law_every" (topS 29) a__law_every d__law_every
  b__law_every : Binds K d__law_every ["loads", "seats"] []
  a__law_seats : Addr
  d__law_seats : FuncData
  g__law_seats : mg "_law_seats" = some (.ref a__law_seats)
  F__law_seats : Fun K "_law_seats" "_law_seats" (topS 28) a__law_seats d__law_seats
  b__law_seats : Binds K d__law_seats ["draws", "many"] []
  a__law_sum : Addr
  d__law_sum : FuncData
  g__law_sum : mg "_law_sum" = some (.ref a__law_sum)
  F__law_sum : Fun K "_law_sum" "_law_sum" (topS 30) a__law_sum d__law_sum
  b__law_sum : Binds K d__law_sum ["loads", "stowing"] []
  a_law : Addr
  d_law : FuncData
  g_law : mg "law" = some (.ref a_law)
  F_law : Fun K "law" "law" (topS 32) a_law d_law
  b_law : Binds K d_law ["script"] []
  n_range : mg "range" = none
  n_tuple : mg "tuple" = none
  n_min : mg "min" = none
  n_len : mg "len" = none
  n_int : mg "int" = none
  n_max : mg "max" = none
  n_list : mg "list" = none
  n_abs : mg "abs" = none
  n_isinstance : mg "isinstance" = none
  v_MOST_TILT : ∃ t, mg "MOST_TILT" = some (.int (100000) t)
  n_all : mg "all" = none
  v_MOST_FAR : ∃ t, mg "MOST_FAR" = some (.int (20) t)
  v_MOST_SEATS : ∃ t, mg "MOST_SEATS" = some (.int (8) t)
  v_MOST_LOADS : ∃ t, mg "MOST_LOADS" = some (.int (6) t)
  v_MOST_HEAVY : ∃ t, mg "MOST_HEAVY" = some (.int (100) t)
  n_zip : mg "zip" = none
  n_bool : mg "bool" = none
  n_sum : mg "sum" = none
  n_sorted : mg "sorted" = none
  n_set : mg "set" = none
  C_BadLoads : Addr
  c_BadLoads : mg "BadLoads" = some (.ref C_BadLoads)
  k_BadLoads : PySem.W.keepIn K (.ref C_BadLoads) = true
  s_BadLoads : PySem.W.subIn K (.ref C_BadLoads) (.type "BaseException") = some true
  t_BadLoads : PySem.W.typeIn K (.ref C_BadLoads) = some (.type "type")
  h_BadLoads : PySem.W.hasDictIn K C_BadLoads = true
  z_BadLoads : PySem.W.subIn K (.ref C_BadLoads) (.ref C_BadLoads) = some true
  x_BadLoads : PySem.W.excIn K C_BadLoads [.type "ValueError", .type "Exception", .type "BaseException", .type "object"] "ValueError.__new__" = true
  e_BadLoads : ExcC K C_BadLoads
  C_BadMost : Addr
  c_BadMost : mg "BadMost" = some (.ref C_BadMost)
  k_BadMost : PySem.W.keepIn K (.ref C_BadMost) = true
  s_BadMost : PySem.W.subIn K (.ref C_BadMost) (.type "BaseException") = some true
  t_BadMost : PySem.W.typeIn K (.ref C_BadMost) = some (.type "type")
  h_BadMost : PySem.W.hasDictIn K C_BadMost = true
  x_BadMost : PySem.W.excIn K C_BadMost [.type "ValueError", .type "Exception", .type "BaseException", .type "object"] "ValueError.__new__" = true
  e_BadMost : ExcC K C_BadMost
  C_BadSeats : Addr
  c_BadSeats : mg "BadSeats" = some (.ref C_BadSeats)
  k_BadSeats : PySem.W.keepIn K (.ref C_BadSeats) = true
  s_BadSeats : PySem.W.subIn K (.ref C_BadSeats) (.type "BaseException") = some true
  t_BadSeats : PySem.W.typeIn K (.ref C_BadSeats) = some (.type "type")
  h_BadSeats : PySem.W.hasDictIn K C_BadSeats = true
  z_BadSeats : PySem.W.subIn K (.ref C_BadSeats) (.ref C_BadSeats) = some true
  x_BadSeats : PySem.W.excIn K C_BadSeats [.type "ValueError", .type "Exception", .type "BaseException", .type "object"] "ValueError.__new__" = true
  e_BadSeats : ExcC K C_BadSeats
  C_BadStowing : Addr
  c_BadStowing : mg "BadStowing" = some (.ref C_BadStowing)
  k_BadStowing : PySem.W.keepIn K (.ref C_BadStowing) = true
  s_BadStowing : PySem.W.subIn K (.ref C_BadStowing) (.type "BaseException") = some true
  t_BadStowing : PySem.W.typeIn K (.ref C_BadStowing) = some (.type "type")
  h_BadStowing : PySem.W.hasDictIn K C_BadStowing = true
  z_BadStowing : PySem.W.subIn K (.ref C_BadStowing) (.ref C_BadStowing) = some true
  x_BadStowing : PySem.W.excIn K C_BadStowing [.type "ValueError", .type "Exception", .type "BaseException", .type "object"] "ValueError.__new__" = true
  e_BadStowing : ExcC K C_BadStowing
  C_ChestError : Addr
  c_ChestError : mg "ChestError" = some (.ref C_ChestError)
  k_ChestError : PySem.W.keepIn K (.ref C_ChestError) = true
  s_ChestError : PySem.W.subIn K (.ref C_ChestError) (.type "BaseException") = some true
  t_ChestError : PySem.W.typeIn K (.ref C_ChestError) = some (.type "type")
  h_ChestError : PySem.W.hasDictIn K C_ChestError = true
  z_ChestError : PySem.W.subIn K (.ref C_ChestError) (.ref C_ChestError) = some true
  p_BadLoads_BadLoads : PySem.W.subIn K (.ref C_BadLoads) (.ref C_BadLoads) = some true
  p_BadLoads_BadSeats : PySem.W.subIn K (.ref C_BadLoads) (.ref C_BadSeats) = some false
  p_BadLoads_BadStowing : PySem.W.subIn K (.ref C_BadLoads) (.ref C_BadStowing) = some false
  p_BadLoads_ChestError : PySem.W.subIn K (.ref C_BadLoads) (.ref C_ChestError) = some true
  p_BadMost_BadLoads : PySem.W.subIn K (.ref C_BadMost) (.ref C_BadLoads) = some false
  p_BadMost_BadSeats : PySem.W.subIn K (.ref C_BadMost) (.ref C_BadSeats) = some false
  p_BadMost_BadStowing : PySem.W.subIn K (.ref C_BadMost) (.ref C_BadStowing) = some false
  p_BadMost_ChestError : PySem.W.subIn K (.ref C_BadMost) (.ref C_ChestError) = some true
  p_BadSeats_BadLoads : PySem.W.subIn K (.ref C_BadSeats) (.ref C_BadLoads) = some false
  p_BadSeats_BadSeats : PySem.W.subIn K (.ref C_BadSeats) (.ref C_BadSeats) = some true
  p_BadSeats_BadStowing : PySem.W.subIn K (.ref C_BadSeats) (.ref C_BadStowing) = some false
  p_BadSeats_ChestError : PySem.W.subIn K (.ref C_BadSeats) (.ref C_ChestError) = some true
  p_BadStowing_BadLoads : PySem.W.subIn K (.ref C_BadStowing) (.ref C_BadLoads) = some false
  p_BadStowing_BadSeats : PySem.W.subIn K (.ref C_BadStowing) (.ref C_BadSeats) = some false
  p_BadStowing_BadStowing : PySem.W.subIn K (.ref C_BadStowing) (.ref C_BadStowing) = some true
  p_BadStowing_ChestError : PySem.W.subIn K (.ref C_BadStowing) (.ref C_ChestError) = some true
section
variable {P : Program} {w : World} {K : PySem.W.Frag} {mg : Str → Option Value} {base : Heap}
theorem Txt.sub_all (T : Txt K mg) : ∀ n m b, subE n m = some b → ∃ C D, mg n = some (.ref C) ∧ mg m = some (.ref D) ∧ PySem.W.exmOne K (.ref C) (.ref D) = some b := by
  intro n m b h
  unfold subE at h
  split at h
  · cases h; exact ⟨_, _, T.c_BadLoads, T.c_BadLoads, PySem.W.exm_ref T.s_BadLoads T.h_BadLoads T.t_BadLoads T.p_BadLoads_BadLoads⟩
  · cases h; exact ⟨_, _, T.c_BadLoads, T.c_BadSeats, PySem.W.exm_ref T.s_BadSeats T.h_BadSeats T.t_BadSeats T.p_BadLoads_BadSeats⟩
  · cases h; exact ⟨_, _, T.c_BadLoads, T.c_BadStowing, PySem.W.exm_ref T.s_BadStowing T.h_BadStowing T.t_BadStowing T.p_BadLoads_BadStowing⟩
  · cases h; exact ⟨_, _, T.c_BadLoads, T.c_ChestError, PySem.W.exm_ref T.s_ChestError T.h_ChestError T.t_ChestError T.p_BadLoads_ChestError⟩
  · cases h; exact ⟨_, _, T.c_BadMost, T.c_BadLoads, PySem.W.exm_ref T.s_BadLoads T.h_BadLoads T.t_BadLoads T.p_BadMost_BadLoads⟩
  · cases h; exact ⟨_, _, T.c_BadMost, T.c_BadSeats, PySem.W.exm_ref T.s_BadSeats T.h_BadSeats T.t_BadSeats T.p_BadMost_BadSeats⟩
  · cases h; exact ⟨_, _, T.c_BadMost, T.c_BadStowing, PySem.W.exm_ref T.s_BadStowing T.h_BadStowing T.t_BadStowing T.p_BadMost_BadStowing⟩
  · cases h; exact ⟨_, _, T.c_BadMost, T.c_ChestError, PySem.W.exm_ref T.s_ChestError T.h_ChestError T.t_ChestError T.p_BadMost_ChestError⟩
  · cases h; exact ⟨_, _, T.c_BadSeats, T.c_BadLoads, PySem.W.exm_ref T.s_BadLoads T.h_BadLoads T.t_BadLoads T.p_BadSeats_BadLoads⟩
  · cases h; exact ⟨_, _, T.c_BadSeats, T.c_BadSeats, PySem.W.exm_ref T.s_BadSeats T.h_BadSeats T.t_BadSeats T.p_BadSeats_BadSeats⟩
  · cases h; exact ⟨_, _, T.c_BadSeats, T.c_BadStowing, PySem.W.exm_ref T.s_BadStowing T.h_BadStowing T.t_BadStowing T.p_BadSeats_BadStowing⟩
  · cases h; exact ⟨_, _, T.c_BadSeats, T.c_ChestError, PySem.W.exm_ref T.s_ChestError T.h_ChestError T.t_ChestError T.p_BadSeats_ChestError⟩
  · cases h; exact ⟨_, _, T.c_BadStowing, T.c_BadLoads, PySem.W.exm_ref T.s_BadLoads T.h_BadLoads T.t_BadLoads T.p_BadStowing_BadLoads⟩
  · cases h; exact ⟨_, _, T.c_BadStowing, T.c_BadSeats, PySem.W.exm_ref T.s_BadSeats T.h_BadSeats T.t_BadSeats T.p_BadStowing_BadSeats⟩
  · cases h; exact ⟨_, _, T.c_BadStowing, T.c_BadStowing, PySem.W.exm_ref T.s_BadStowing T.h_BadStowing T.t_BadStowing T.p_BadStowing_BadStowing⟩
  · cases h; exact ⟨_, _, T.c_BadStowing, T.c_ChestError, PySem.W.exm_ref T.s_ChestError T.h_ChestError T.t_ChestError T.p_BadStowing_ChestError⟩
  · cases h
theorem Txt.kit_all (T : Txt K mg) : ∀ n m b, subE n m = some b → ∃ C D, mg n = some (.ref C) ∧ mg m = some (.ref D) ∧ PySem.W.kitOne K (.ref C) (.ref D) = some b ∧ ExcC K C := by
  intro n m b h
  unfold subE at h
  split at h
  · cases h; exact ⟨_, _, T.c_BadLoads, T.c_BadLoads, kit_ref T.h_BadLoads T.t_BadLoads T.z_BadLoads T.p_BadLoads_BadLoads, T.e_BadLoads⟩
  · cases h; exact ⟨_, _, T.c_BadLoads, T.c_BadSeats, kit_ref T.h_BadSeats T.t_BadSeats T.z_BadSeats T.p_BadLoads_BadSeats, T.e_BadLoads⟩
  · cases h; exact ⟨_, _, T.c_BadLoads, T.c_BadStowing, kit_ref T.h_BadStowing T.t_BadStowing T.z_BadStowing T.p_BadLoads_BadStowing, T.e_BadLoads⟩
  · cases h; exact ⟨_, _, T.c_BadLoads, T.c_ChestError, kit_ref T.h_ChestError T.t_ChestError T.z_ChestError T.p_BadLoads_ChestError, T.e_BadLoads⟩
  · cases h; exact ⟨_, _, T.c_BadMost, T.c_BadLoads, kit_ref T.h_BadLoads T.t_BadLoads T.z_BadLoads T.p_BadMost_BadLoads, T.e_BadMost⟩
  · cases h; exact ⟨_, _, T.c_BadMost, T.c_BadSeats, kit_ref T.h_BadSeats T.t_BadSeats T.z_BadSeats T.p_BadMost_BadSeats, T.e_BadMost⟩
  · cases h; exact ⟨_, _, T.c_BadMost, T.c_BadStowing, kit_ref T.h_BadStowing T.t_BadStowing T.z_BadStowing T.p_BadMost_BadStowing, T.e_BadMost⟩
  · cases h; exact ⟨_, _, T.c_BadMost, T.c_ChestError, kit_ref T.h_ChestError T.t_ChestError T.z_ChestError T.p_BadMost_ChestError, T.e_BadMost⟩
  · cases h; exact ⟨_, _, T.c_BadSeats, T.c_BadLoads, kit_ref T.h_BadLoads T.t_BadLoads T.z_BadLoads T.p_BadSeats_BadLoads, T.e_BadSeats⟩
  · cases h; exact ⟨_, _, T.c_BadSeats, T.c_BadSeats, kit_ref T.h_BadSeats T.t_BadSeats T.z_BadSeats T.p_BadSeats_BadSeats, T.e_BadSeats⟩
  · cases h; exact ⟨_, _, T.c_BadSeats, T.c_BadStowing, kit_ref T.h_BadStowing T.t_BadStowing T.z_BadStowing T.p_BadSeats_BadStowing, T.e_BadSeats⟩
  · cases h; exact ⟨_, _, T.c_BadSeats, T.c_ChestError, kit_ref T.h_ChestError T.t_ChestError T.z_ChestError T.p_BadSeats_ChestError, T.e_BadSeats⟩
  · cases h; exact ⟨_, _, T.c_BadStowing, T.c_BadLoads, kit_ref T.h_BadLoads T.t_BadLoads T.z_BadLoads T.p_BadStowing_BadLoads, T.e_BadStowing⟩
  · cases h; exact ⟨_, _, T.c_BadStowing, T.c_BadSeats, kit_ref T.h_BadSeats T.t_BadSeats T.z_BadSeats T.p_BadStowing_BadSeats, T.e_BadStowing⟩
  · cases h; exact ⟨_, _, T.c_BadStowing, T.c_BadStowing, kit_ref T.h_BadStowing T.t_BadStowing T.z_BadStowing T.p_BadStowing_BadStowing, T.e_BadStowing⟩
  · cases h; exact ⟨_, _, T.c_BadStowing, T.c_ChestError, kit_ref T.h_ChestError T.t_ChestError T.z_ChestError T.p_BadStowing_ChestError, T.e_BadStowing⟩
  · cases h
theorem Txt.sub {X : Cx} (T : Txt X.K X.mg) : SubOk X subE := T.sub_all
theorem Txt.kit {X : Cx} (T : Txt X.K X.mg) : KitOk X subE := T.kit_all
theorem sc__law_draws : FnScope ["script", "many", "draws", "seed", "cell", "number", "k"] ["script", "many"] (defScope (topS 27)) := ⟨rfl, rfl, rfl, by decide +kernel, rfl, by decide +kernel, by decide +kernel⟩
theorem ok__law_draws {T : Txt K mg} : FnOk P w K mg base (L2.CX P w) 1 T.a__law_draws T.d__law_draws ["script", "many"] (spD K mg [true, false] cf__law_draws) :=
  fn_ok T.F__law_draws sc__law_draws rfl (by decide) fun cdv A outer s H E G hr =>
    have S := sc__law_draws
    show PSs _ (defBody (topS 27)) (RS _ G (WF E) bd__law_draws) from
    (rs_cons (rs_own (i := 2) S.nd rfl (.inl rfl) (rl_lst ra_nil))
    (rs_cons (rs_set (i := 3) S.nd rfl (.inl rfl) re_int)
    (rs_cons (rs_for (passes_of rfl) rfl (by exact (ri_e (re_sl sl_seqB slD_quiet (rb_var 0) ro_none (ro_some re_int)))) (rg_nm (i := 4) S.nd rfl) (rs_cons (rs_set (i := 5) S.nd rfl (.inl rfl) (re_callB call_absB absD_quiet rfl T.n_abs boot_abs (rab_cons (re_b (re_var 4)) rab_nil)))
    (rs_cons (rs_set (i := 3) S.nd rfl (.inl rfl) (re_op op_modD modD_quiet (re_callTy call_intB intD_quiet rfl T.n_int boot_int (rab_cons (re_b (re_op op_addD addD_quiet (re_op op_addD addD_quiet (re_op op_mulD mulD_quiet (re_var 3) re_int) (re_var 5)) re_int)) rab_nil)) re_int))
    (rs_one (rs_if (rt_cmp op_geB geD_quiet (re_b (re_var 5)) (re_b (re_op op_powD powD_quiet re_int re_int)) (by first | exact nobehind _ (by decide) (by decide) | rfl)) (rs_one (rs_for (passes_of rfl) rfl (by exact (ri_range1 rfl T.n_range (rab_cons (re_b re_int) rab_nil))) (rg_nm (i := 6) S.nd rfl) (rs_one (rs_if (rt_cmp op_gtB gtD_quiet (re_b (re_var 5)) (re_b re_int) (by first | exact nobehind _ (by decide) (by decide) | rfl)) (rs_cons (rs_append (i := 2) rfl (by first | exact Or.inl rfl | exact Or.inr (Or.inl rfl)) (re_op op_modD modD_quiet (re_callTy call_intB intD_quiet rfl T.n_int boot_int (rab_cons (re_b (re_var 5)) rab_nil)) re_int))
    (rs_one (rs_set (i := 5) S.nd rfl (.inl rfl) (re_op op_fdivD fdivD_quiet (re_var 5) re_int)))) rs_nil)))) (rs_one (rs_append (i := 2) rfl (by first | exact Or.inl rfl | exact Or.inr (Or.inl rfl)) (re_op op_modD modD_quiet (re_op op_fdivD fdivD_quiet (re_callTy call_intB intD_quiet rfl T.n_int boot_int (rab_cons (re_b (re_op op_addD addD_quiet (re_op op_mulD mulD_quiet (re_var 3) re_int) re_int)) rab_nil)) re_int) re_int))))))))
    (rs_cons (rs_for (passes_of rfl) rfl (by exact (ri_range1 rfl T.n_range (rab_cons (re_b (re_var 1)) rab_nil))) (rg_nm (i := 6) S.nd rfl) (rs_one (rs_if (rt_cmp (op_ltB (u64 hr)) ltD_quiet (re_b (re_callB call_lenB lenD_quiet rfl T.n_len boot_len (rab_cons (rb_var 2) rab_nil))) (re_b (re_var 1)) (by first | exact nobehind _ (by decide) (by decide) | rfl)) (rs_cons (rs_set (i := 3) S.nd rfl (.inl rfl) (re_op op_modD modD_quiet (re_callTy call_intB intD_quiet rfl T.n_int boot_int (rab_cons (re_b (re_op op_addD addD_quiet (re_op op_addD addD_quiet (re_op op_mulD mulD_quiet (re_var 3) re_int) (re_var 6)) re_int)) rab_nil)) re_int))
    (rs_one (rs_append (i := 2) rfl (by first | exact Or.inl rfl | exact Or.inr (Or.inl rfl)) (re_op op_modD modD_quiet (re_op op_fdivD fdivD_quiet (re_callTy call_intB intD_quiet rfl T.n_int boot_int (rab_cons (re_b (re_var 3)) rab_nil)) re_int) re_int)))) rs_nil)))
    (rs_one (rs_ret (re_sl sl_seqB slD_quiet (rb_var 2) ro_none (ro_some (re_var 1)))))))))
theorem sc__boarding : FnScope ["loads", "stowing", "most", "good", "group", "one", "rest", "nexts", "order"] ["loads", "stowing", "most"] (defScope (topS 22)) := ⟨rfl, rfl, rfl, by decide +kernel, rfl, by decide +kernel, by decide +kernel⟩
theorem ok__boarding {T : Txt K mg} : FnOk P w K mg base (L2.CX P w) 1 T.a__boarding T.d__boarding ["loads", "stowing", "most"] (spD K mg [false, false, false] cf__boarding) :=
  fn_ok T.F__boarding sc__boarding rfl (by decide) fun cdv A outer s H E G hr =>
    have S := sc__boarding
    show PSs _ (defBody (topS 22)) (RS _ G (WF E) bd__boarding) from
    rss_stuck
theorem sc_ascends : FnScope ["values", "one", "later"] ["values"] (defScope (topS 8)) := ⟨rfl, rfl, rfl, by decide +kernel, rfl, by decide +kernel, by decide +kernel⟩
theorem ok_ascends {T : Txt K mg} : FnOk P w K mg base (L2.CX P w) 1 T.a_ascends T.d_ascends ["values"] (spD K mg [false] cf_ascends) :=
  fn_ok T.F_ascends sc_ascends rfl (by decide) fun cdv A outer s H E G hr =>
    have S := sc_ascends
    show PSs _ (defBody (topS 8)) (RS _ G (WF E) bd_ascends) from
    (rs_one (rs_ret (re_callB (call_allB rfl) allD_quiet rfl T.n_all boot_all (rab_cons (re_b (rl_e (rl_lc rfl S.nd (by exact (ri_w (ri_zip rfl T.n_zip (ra_cons (re_var 0) (ra_cons (re_sl sl_seqB slD_quiet (re_b (re_var 0)) (ro_some re_int) ro_none) ra_nil))))) (blkOk_by (own := [("one", 1), ("later", 2)]) (by kernel_rfl)) (fun _ _ _ _ _ => (rg_tp rfl (rgs_cons (rg_nm (i := 1) S.nd rfl) (rgs_cons (rg_nm (i := 2) S.nd rfl) rgs_nil)))) (fun _ _ _ _ _ => rts_nil) (fun _ _ _ _ _ => (re_cmp (op_ltB (u64 hr)) ltD_quiet (re_b (re_var 1)) (re_b (re_var 2)) (by first | exact nobehind _ (by decide) (by decide) | rfl)))))) rab_nil))))
theorem sc_is_whole : FnScope ["value", "least", "most"] ["value", "least", "most"] (defScope (topS 7)) := ⟨rfl, rfl, rfl, by decide +kernel, rfl, by decide +kernel, by decide +kernel⟩
theorem ok_is_whole {T : Txt K mg} : FnOk P w K mg base (L2.CX P w) 1 T.a_is_whole T.d_is_whole ["value", "least", "most"] (spD K mg [false, false, false] cf_is_whole) :=
  fn_ok T.F_is_whole sc_is_whole rfl (by decide) fun cdv A outer s H E G hr =>
    have S := sc_is_whole
    show PSs _ (defBody (topS 7)) (RS _ G (WF E) bd_is_whole) from
    (rs_one (rs_ret (re_and (re_isi rfl rfl T.n_isinstance (re_b (re_var 0)) rfl T.n_int boot_int) (re_and (re_not (re_isi rfl rfl T.n_isinstance (re_b (re_var 0)) rfl T.n_bool boot_bool)) (re_one (re_chain op_leB op_leB leD_quiet leD_quiet (re_b (re_var 1)) (re_b (re_var 0)) (re_b (re_var 2))))))))
theorem sc__check : FnScope ["loads", "seats", "one"] ["loads", "seats"] (defScope (topS 15)) := ⟨rfl, rfl, rfl, by decide +kernel, rfl, by decide +kernel, by decide +kernel⟩
theorem ok__check {T : Txt K mg} : FnOk P w K mg base (L2.CX P w) 2 T.a__check T.d__check ["loads", "seats"] (spD K mg [false, false] cf__check) :=
  fn_ok T.F__check sc__check rfl (by decide) fun cdv A outer s H E G hr =>
    have S := sc__check
    show PSs _ (defBody (topS 15)) (RS _ G (WF E) bd__check) from
    (rs_cons (rs_if (rt_w (rw_or (rt_not (rt_val (re_isi rfl rfl T.n_isinstance (re_b (re_var 1)) rfl T.n_tuple boot_tuple))) (rw_or1 (rt_not (rt_chain op_leB op_leB leD_quiet leD_quiet (re_b re_int) (re_b (re_callB call_lenB lenD_quiet rfl T.n_len boot_len (rab_cons (re_b (re_var 1)) rab_nil))) (re_b (re_globI rfl T.v_MOST_SEATS))))))) (rs_one (rs_raise rfl (takes_of rfl rfl rfl rfl) (pmk_own PySem.F.excBase_ValueError T.x_BadSeats T.c_BadSeats T.k_BadSeats (raises_own T.s_BadSeats T.t_BadSeats) rfl) T.c_BadSeats)) rs_nil)
    (rs_cons (rs_if (rt_w (rw_or (rt_not (rt_val (re_callB (call_allB rfl) allD_quiet rfl T.n_all boot_all (rab_cons (re_b (rl_e (rl_lc rfl S.nd (by exact (riw_b (re_b (re_var 1)))) (blkOk_by (own := [("one", 2)]) (by kernel_rfl)) (fun _ _ _ _ _ => (rg_nm (i := 2) S.nd rfl)) (fun _ _ _ _ _ => rts_nil) (fun _ _ _ _ _ => (re_call (ok_is_whole (T := T)) (hr.mono (by decide)) rfl T.g_is_whole T.F_is_whole.kp T.b_is_whole takes0 (ram_cons (re_var 2) (ram_cons (re_op op_subD subD_quiet re_int (re_globI rfl T.v_MOST_FAR)) (ram_cons (re_globI rfl T.v_MOST_FAR) ram_nil)))))))) rab_nil)))) (rw_or1 (rt_not (rt_val (re_call (ok_ascends (T := T)) (hr.mono (by decide)) rfl T.g_ascends T.F_ascends.kp T.b_ascends (takes_of rfl rfl rfl rfl) (ram_cons (re_var 1) ram_nil))))))) (rs_one (rs_raise rfl (takes_of rfl rfl rfl rfl) (pmk_own PySem.F.excBase_ValueError T.x_BadSeats T.c_BadSeats T.k_BadSeats (raises_own T.s_BadSeats T.t_BadSeats) rfl) T.c_BadSeats)) rs_nil)
    (rs_cons (rs_if (rt_w (rw_or (rt_not (rt_val (re_isi rfl rfl T.n_isinstance (re_b (re_var 0)) rfl T.n_tuple boot_tuple))) (rw_or1 (rt_not (rt_chain op_leB op_leB leD_quiet leD_quiet (re_b re_int) (re_b (re_callB call_lenB lenD_quiet rfl T.n_len boot_len (rab_cons (re_b (re_var 0)) rab_nil))) (re_b (re_callB (call_minB rfl (u65 hr)) minD_quiet rfl T.n_min boot_min (rab_cons (re_b (re_globI rfl T.v_MOST_LOADS)) (rab_cons (re_b (re_callB call_lenB lenD_quiet rfl T.n_len boot_len (rab_cons (re_b (re_var 1)) rab_nil))) rab_nil))))))))) (rs_one (rs_raise rfl (takes_of rfl rfl rfl rfl) (pmk_own PySem.F.excBase_ValueError T.x_BadLoads T.c_BadLoads T.k_BadLoads (raises_own T.s_BadLoads T.t_BadLoads) rfl) T.c_BadLoads)) rs_nil)
    (rs_one (rs_if (rt_not (rt_val (re_callB (call_allB rfl) allD_quiet rfl T.n_all boot_all (rab_cons (re_b (rl_e (rl_lc rfl S.nd (by exact (riw_b (re_b (re_var 0)))) (blkOk_by (own := [("one", 2)]) (by kernel_rfl)) (fun _ _ _ _ _ => (rg_nm (i := 2) S.nd rfl)) (fun _ _ _ _ _ => rts_nil) (fun _ _ _ _ _ => (re_call (ok_is_whole (T := T)) (hr.mono (by decide)) rfl T.g_is_whole T.F_is_whole.kp T.b_is_whole takes0 (ram_cons (re_var 2) (ram_cons re_int (ram_cons (re_globI rfl T.v_MOST_HEAVY) ram_nil)))))))) rab_nil)))) (rs_one (rs_raise rfl (takes_of rfl rfl rfl rfl) (pmk_own PySem.F.excBase_ValueError T.x_BadLoads T.c_BadLoads T.k_BadLoads (raises_own T.s_BadLoads T.t_BadLoads) rfl) T.c_BadLoads)) rs_nil)))))
theorem sc__check_stowing : FnScope ["loads", "seats", "stowing", "one"] ["loads", "seats", "stowing"] (defScope (topS 16)) := ⟨rfl, rfl, rfl, by decide +kernel, rfl, by decide +kernel, by decide +kernel⟩
theorem ok__check_stowing {T : Txt K mg} : FnOk P w K mg base (L2.CX P w) 3 T.a__check_stowing T.d__check_stowing ["loads", "seats", "stowing"] (spD K mg [false, false, false] cf__check_stowing) :=
  fn_ok T.F__check_stowing sc__check_stowing rfl (by decide) fun cdv A outer s H E G hr =>
    have S := sc__check_stowing
    show PSs _ (defBody (topS 16)) (RS _ G (WF E) bd__check_stowing) from
    (rs_cons (rs_expr (re_call (ok__check (T := T)) (hr.mono (by decide)) rfl T.g__check T.F__check.kp T.b__check (takes_of rfl rfl rfl rfl) (ram_cons (re_var 0) (ram_cons (re_var 1) ram_nil))))
    (rs_cons (rs_if (rt_w (rw_or (rt_not (rt_val (re_isi rfl rfl T.n_isinstance (re_b (re_var 2)) rfl T.n_tuple boot_tuple))) (rw_or1 (rt_cmp (op_neB (u64 hr)) neD_quiet (re_b (re_callB call_lenB lenD_quiet rfl T.n_len boot_len (rab_cons (re_b (re_var 2)) rab_nil))) (re_b (re_callB call_lenB lenD_quiet rfl T.n_len boot_len (rab_cons (re_b (re_var 0)) rab_nil))) (by first | exact nobehind _ (by decide) (by decide) | rfl))))) (rs_one (rs_raise rfl (takes_of rfl rfl rfl rfl) (pmk_own PySem.F.excBase_ValueError T.x_BadStowing T.c_BadStowing T.k_BadStowing (raises_own T.s_BadStowing T.t_BadStowing) rfl) T.c_BadStowing)) rs_nil)
    (rs_cons (rs_if (rt_not (rt_val (re_callB (call_allB rfl) allD_quiet rfl T.n_all boot_all (rab_cons (re_b (rl_e (rl_lc rfl S.nd (by exact (riw_b (re_b (re_var 2)))) (blkOk_by (own := [("one", 3)]) (by kernel_rfl)) (fun _ _ _ _ _ => (rg_nm (i := 3) S.nd rfl)) (fun _ _ _ _ _ => rts_nil) (fun _ _ _ _ _ => (re_and (re_call (ok_is_whole (T := T)) (hr.mono (by decide)) rfl T.g_is_whole T.F_is_whole.kp T.b_is_whole takes0 (ram_cons (re_var 3) (ram_cons (re_op op_subD subD_quiet re_int (re_globI rfl T.v_MOST_FAR)) (ram_cons (re_globI rfl T.v_MOST_FAR) ram_nil)))) (re_one (re_cmp (op_inB (u65 hr)) inD_quiet (re_b (re_var 3)) (re_b (re_var 1)) (by first | exact nobehind _ (by decide) (by decide) | rfl)))))))) rab_nil)))) (rs_one (rs_raise rfl (takes_of rfl rfl rfl rfl) (pmk_own PySem.F.excBase_ValueError T.x_BadStowing T.c_BadStowing T.k_BadStowing (raises_own T.s_BadStowing T.t_BadStowing) rfl) T.c_BadStowing)) rs_nil)
    (rs_one (rs_if (rt_cmp (op_ltB (u64 hr)) ltD_quiet (re_b (re_lenDc rfl T.n_len (rd_dc rfl S.nd (by exact (riw_b (re_b (re_var 2)))) (blkOk_by (own := [("one", 3)]) (by kernel_rfl)) (fun _ _ _ _ _ => (rg_nm (i := 3) S.nd rfl)) (fun _ _ _ _ _ => rts_nil) (fun _ _ _ _ _ => (re_var 3)) (fun _ _ _ _ _ => re_bl)))) (re_b (re_callB call_lenB lenD_quiet rfl T.n_len boot_len (rab_cons (re_b (re_var 2)) rab_nil))) (by first | exact nobehind _ (by decide) (by decide) | rfl)) (rs_one (rs_raise rfl (takes_of rfl rfl rfl rfl) (pmk_own PySem.F.excBase_ValueError T.x_BadStowing T.c_BadStowing T.k_BadStowing (raises_own T.s_BadStowing T.t_BadStowing) rfl) T.c_BadStowing)) rs_nil)))))
theorem sc_boarding : FnScope ["loads", "seats", "stowing", "most"] ["loads", "seats", "stowing", "most"] (defScope (topS 24)) := ⟨rfl, rfl, rfl, by decide +kernel, rfl, by decide +kernel, by decide +kernel⟩
theorem ok_boarding {T : Txt K mg} : FnOk P w K mg base (L2.CX P w) 4 T.a_boarding T.d_boarding ["loads", "seats", "stowing", "most"] (spD K mg [false, false, false, false] cf_boarding) :=
  fn_ok T.F_boarding sc_boarding rfl (by decide) fun cdv A outer s H E G hr =>
    have S := sc_boarding
    show PSs _ (defBody (topS 24)) (RS _ G (WF E) bd_boarding) from
    (rs_cons (rs_expr (re_call (ok__check_stowing (T := T)) (hr.mono (by decide)) rfl T.g__check_stowing T.F__check_stowing.kp T.b__check_stowing (takes_of rfl rfl rfl rfl) (ram_cons (re_var 0) (ram_cons (re_var 1) (ram_cons (re_var 2) ram_nil)))))
    (rs_cons (rs_if (rt_not (rt_val (re_call (ok_is_whole (T := T)) (hr.mono (by decide)) rfl T.g_is_whole T.F_is_whole.kp T.b_is_whole (takes_of rfl rfl rfl rfl) (ram_cons (re_var 3) (ram_cons re_int (ram_cons (re_globI rfl T.v_MOST_TILT) ram_nil)))))) (rs_one (rs_raise rfl (takes_of rfl rfl rfl rfl) (pmk_own PySem.F.excBase_ValueError T.x_BadMost T.c_BadMost T.k_BadMost (raises_own T.s_BadMost T.t_BadMost) rfl) T.c_BadMost)) rs_nil)
    (rs_one (rs_ret (re_call (ok__boarding (T := T)) (hr.mono (by decide)) rfl T.g__boarding T.F__boarding.kp T.b__boarding (takes_of rfl rfl rfl rfl) (ram_cons (re_var 0) (ram_cons (re_var 2) (ram_cons (re_var 3) ram_nil))))))))
theorem sc__stowings : FnScope ["loads", "seats", "rows", "_load", "row", "seat"] ["loads", "seats"] (defScope (topS 19)) := ⟨rfl, rfl, rfl, by decide +kernel, rfl, by decide +kernel, by decide +kernel⟩
theorem ok__stowings {T : Txt K mg} : FnOk P w K mg base (L2.CX P w) 1 T.a__stowings T.d__stowings ["loads", "seats"] (spD K mg [false, false] cf__stowings) :=
  fn_ok T.F__stowings sc__stowings rfl (by decide) fun cdv A outer s H E G hr =>
    have S := sc__stowings
    show PSs _ (defBody (topS 19)) (RS _ G (WF E) bd__stowings) from
    (rs_cons (rs_set (i := 2) S.nd rfl (.inl rfl) (rl_e (rl_lst (ra_cons (re_tup ra_nil) ra_nil))))
    (rs_cons (rs_for (passes_of rfl) rfl (by exact (ri_e (re_var 0))) (rg_nm (i := 3) S.nd rfl) (rs_one (rs_setLc2 (i := 2) rfl S.nd rfl rfl rfl (by exact (riw_b (re_b (re_var 2)))) (blkOk_by (own := [("row", 4), ("seat", 5)]) (by kernel_rfl)) (vs1 := [5]) (by decide) (fun _ _ _ _ _ => (rg_nm (i := 4) S.nd rfl)) (fun _ _ _ _ _ => rts_nil) (fun _ _ _ _ _ => (by exact (ri_e (re_var 1)))) (fun _ _ _ _ _ => (rg_nm (i := 5) S.nd rfl)) (fun _ _ _ _ _ => (rts_one (rt_cmp (op_notInB (u65 hr)) notInD_quiet (re_b (re_var 5)) (re_b (re_var 4)) (by first | exact nobehind _ (by decide) (by decide) | rfl)))) (fun _ _ _ _ _ => (re_op op_addD addD_quiet (re_var 4) (re_tup (ra_cons (re_var 5) ra_nil)))))))
    (rs_one (rs_ret (re_var 2)))))
theorem sc__tilt : FnScope ["loads", "stowing", "load", "seat"] ["loads", "stowing"] (defScope (topS 17)) := ⟨rfl, rfl, rfl, by decide +kernel, rfl, by decide +kernel, by decide +kernel⟩
theorem ok__tilt {T : Txt K mg} : FnOk P w K mg base (L2.CX P w) 1 T.a__tilt T.d__tilt ["loads", "stowing"] (spD K mg [false, false] cf__tilt) :=
  fn_ok T.F__tilt sc__tilt rfl (by decide) fun cdv A outer s H E G hr =>
    have S := sc__tilt
    show PSs _ (defBody (topS 17)) (RS _ G (WF E) bd__tilt) from
    (rs_one (rs_ret (re_callB (call_sumB rfl) sumD_quiet rfl T.n_sum boot_sum (rab_cons (re_b (rl_e (rl_lc rfl S.nd (by exact (ri_w (ri_zip rfl T.n_zip (ra_cons (re_var 0) (ra_cons (re_var 1) ra_nil))))) (blkOk_by (own := [("load", 2), ("seat", 3)]) (by kernel_rfl)) (fun _ _ _ _ _ => (rg_tp rfl (rgs_cons (rg_nm (i := 2) S.nd rfl) (rgs_cons (rg_nm (i := 3) S.nd rfl) rgs_nil)))) (fun _ _ _ _ _ => rts_nil) (fun _ _ _ _ _ => (re_op op_mulD mulD_quiet (re_var 2) (re_var 3)))))) rab_nil))))
theorem sc_count_level : FnScope ["loads", "seats", "row"] ["loads", "seats"] (defScope (topS 21)) := ⟨rfl, rfl, rfl, by decide +kernel, rfl, by decide +kernel, by decide +kernel⟩
theorem ok_count_level {T : Txt K mg} : FnOk P w K mg base (L2.CX P w) 3 T.a_count_level T.d_count_level ["loads", "seats"] (spD K mg [false, false] cf_count_level) :=
  fn_ok T.F_count_level sc_count_level rfl (by decide) fun cdv A outer s H E G hr =>
    have S := sc_count_level
    show PSs _ (defBody (topS 21)) (RS _ G (WF E) bd_count_level) from
    (rs_cons (rs_expr (re_call (ok__check (T := T)) (hr.mono (by decide)) rfl T.g__check T.F__check.kp T.b__check (takes_of rfl rfl rfl rfl) (ram_cons (re_var 0) (ram_cons (re_var 1) ram_nil))))
    (rs_one (rs_ret (re_callB call_lenB lenD_quiet rfl T.n_len boot_len (rab_cons (re_b (rl_e (rl_lc rfl S.nd (by exact (riw_b (re_b (re_call (ok__stowings (T := T)) (hr.mono (by decide)) rfl T.g__stowings T.F__stowings.kp T.b__stowings (takes_of rfl rfl rfl rfl) (ram_cons (re_var 0) (ram_cons (re_var 1) ram_nil)))))) (blkOk_by (own := [("row", 2)]) (by kernel_rfl)) (fun _ _ _ _ _ => (rg_nm (i := 2) S.nd rfl)) (fun _ _ _ _ _ => (rts_one (rt_cmp (op_eqB (u64 hr)) eqD_quiet (re_b (re_call (ok__tilt (T := T)) (hr.mono (by decide)) rfl T.g__tilt T.F__tilt.kp T.b__tilt takes0 (ram_cons (re_var 0) (ram_cons (re_var 2) ram_nil)))) (re_b re_int) (by first | exact nobehind _ (by decide) (by decide) | rfl)))) (fun _ _ _ _ _ => (re_var 2))))) rab_nil)))))
theorem sc_least_tilt : FnScope ["loads", "seats", "rows", "row", "tilt"] ["loads", "seats"] (defScope (topS 20)) := ⟨rfl, rfl, rfl, by decide +kernel, rfl, by decide +kernel, by decide +kernel⟩
theorem ok_least_tilt {T : Txt K mg} : FnOk P w K mg base (L2.CX P w) 3 T.a_least_tilt T.d_least_tilt ["loads", "seats"] (spD K mg [false, false] cf_least_tilt) :=
  fn_ok T.F_least_tilt sc_least_tilt rfl (by decide) fun cdv A outer s H E G hr =>
    have S := sc_least_tilt
    show PSs _ (defBody (topS 20)) (RS _ G (WF E) bd_least_tilt) from
    (rs_cons (rs_expr (re_call (ok__check (T := T)) (hr.mono (by decide)) rfl T.g__check T.F__check.kp T.b__check (takes_of rfl rfl rfl rfl) (ram_cons (re_var 0) (ram_cons (re_var 1) ram_nil))))
    (rs_cons (rs_setLc (i := 2) rfl S.nd rfl rfl rfl (by exact (riw_b (re_b (re_call (ok__stowings (T := T)) (hr.mono (by decide)) rfl T.g__stowings T.F__stowings.kp T.b__stowings (takes_of rfl rfl rfl rfl) (ram_cons (re_var 0) (ram_cons (re_var 1) ram_nil)))))) (blkOk_by (own := [("row", 3)]) (by kernel_rfl)) (fun _ _ _ _ _ => (rg_nm (i := 3) S.nd rfl)) (fun _ _ _ _ _ => rts_nil) (fun _ _ _ _ _ => (re_tup (ra_cons (re_call (ok__tilt (T := T)) (hr.mono (by decide)) rfl T.g__tilt T.F__tilt.kp T.b__tilt takes0 (ram_cons (re_var 0) (ram_cons (re_var 3) ram_nil))) (ra_cons (re_var 3) ra_nil)))))
    (rs_one (rs_ret (re_sl sl_seqB slD_quiet (re_b (re_callB (call_minB rfl (u65 hr)) minD_quiet rfl T.n_min boot_min (rab_cons (re_b (rl_e (rl_lc rfl S.nd (by exact (riw_b (re_b (re_var 2)))) (blkOk_by (own := [("tilt", 4), ("row", 3)]) (by kernel_rfl)) (fun _ _ _ _ _ => (rg_tp rfl (rgs_cons (rg_nm (i := 4) S.nd rfl) (rgs_cons (rg_nm (i := 3) S.nd rfl) rgs_nil)))) (fun _ _ _ _ _ => rts_nil) (fun _ _ _ _ _ => (re_tup (ra_cons (re_callB call_absB absD_quiet rfl T.n_abs boot_abs (rab_cons (re_b (re_var 4)) rab_nil)) (ra_cons (re_var 4) (ra_cons (re_var 3) ra_nil)))))))) rab_nil))) (ro_some re_int) ro_none)))))
theorem sc_steadiest : FnScope ["loads", "seats", "stowing", "tilts", "group", "one", "most", "order"] ["loads", "seats", "stowing"] (defScope (topS 25)) := ⟨rfl, rfl, rfl, by decide +kernel, rfl, by decide +kernel, by decide +kernel⟩
theorem ok_steadiest {T : Txt K mg} : FnOk P w K mg base (L2.CX P w) 4 T.a_steadiest T.d_steadiest ["loads", "seats", "stowing"] (spD K mg [false, false, false] cf_steadiest) :=
  fn_ok T.F_steadiest sc_steadiest rfl (by decide) fun cdv A outer s H E G hr =>
    have S := sc_steadiest
    show PSs _ (defBody (topS 25)) (RS _ G (WF E) bd_steadiest) from
    (rs_cons (rs_expr (re_call (ok__check_stowing (T := T)) (hr.mono (by decide)) rfl T.g__check_stowing T.F__check_stowing.kp T.b__check_stowing (takes_of rfl rfl rfl rfl) (ram_cons (re_var 0) (ram_cons (re_var 1) (ram_cons (re_var 2) ram_nil))))) rss_stuck)
theorem sc_tilt_of : FnScope ["loads", "seats", "stowing"] ["loads", "seats", "stowing"] (defScope (topS 18)) := ⟨rfl, rfl, rfl, by decide +kernel, rfl, by decide +kernel, by decide +kernel⟩
theorem ok_tilt_of {T : Txt K mg} : FnOk P w K mg base (L2.CX P w) 4 T.a_tilt_of T.d_tilt_of ["loads", "seats", "stowing"] (spD K mg [false, false, false] cf_tilt_of) :=
  fn_ok T.F_tilt_of sc_tilt_of rfl (by decide) fun cdv A outer s H E G hr =>
    have S := sc_tilt_of
    show PSs _ (defBody (topS 18)) (RS _ G (WF E) bd_tilt_of) from
    (rs_cons (rs_expr (re_call (ok__check_stowing (T := T)) (hr.mono (by decide)) rfl T.g__check_stowing T.F__check_stowing.kp T.b__check_stowing (takes_of rfl rfl rfl rfl) (ram_cons (re_var 0) (ram_cons (re_var 1) (ram_cons (re_var 2) ram_nil)))))
    (rs_one (rs_ret (re_call (ok__tilt (T := T)) (hr.mono (by decide)) rfl T.g__tilt T.F__tilt.kp T.b__tilt (takes_of rfl rfl rfl rfl) (ram_cons (re_var 0) (ram_cons (re_var 2) ram_nil))))))
theorem sc__law_error : FnScope ["way", "loads", "seats", "stowing", "e"] ["way", "loads", "seats", "stowing"] (defScope (topS 31)) := ⟨rfl, rfl, rfl, by decide +kernel, rfl, by decide +kernel, by decide +kernel⟩
theorem ok__law_error {T : Txt K mg} : FnOk P w K mg base (L2.CX P w) 5 T.a__law_error T.d__law_error ["way", "loads", "seats", "stowing"] (spD K mg [false, false, false, false] cf__law_error) :=
  fn_ok T.F__law_error sc__law_error rfl (by decide) fun cdv A outer s H E G hr =>
    have S := sc__law_error
    show PSs _ (defBody (topS 31)) (RS _ G (WF E) bd__law_error) from
    (rs_cons (rs_try rfl rfl S.nd (takes_of rfl rfl rfl rfl) T.sub (fun W pn xe tk hp => (rs_one (rs_if (rt_cmp (op_eqB (u64 hr)) eqD_quiet (re_b (re_var 0)) (re_b re_int) (by first | exact nobehind _ (by decide) (by decide) | rfl)) (rs_one (rs_expr (re_call (ok_tilt_of (T := T)) (hr.mono (by decide)) rfl T.g_tilt_of T.F_tilt_of.kp T.b_tilt_of tk (ram_cons (re_var 1) (ram_cons (re_var 2) (ram_cons (re_var 3) ram_nil)))))) (rs_one (rs_if (rt_cmp (op_eqB (u64 hr)) eqD_quiet (re_b (re_var 0)) (re_b re_int) (by first | exact nobehind _ (by decide) (by decide) | rfl)) (rs_one (rs_expr (re_call (ok_boarding (T := T)) (hr.mono (by decide)) rfl T.g_boarding T.F_boarding.kp T.b_boarding tk (ram_cons (re_var 1) (ram_cons (re_var 2) (ram_cons (re_var 3) (ram_cons re_int ram_nil))))))) (rs_one (rs_if (rt_cmp (op_eqB (u64 hr)) eqD_quiet (re_b (re_var 0)) (re_b re_int) (by first | exact nobehind _ (by decide) (by decide) | rfl)) (rs_one (rs_expr (re_call (ok_steadiest (T := T)) (hr.mono (by decide)) rfl T.g_steadiest T.F_steadiest.kp T.b_steadiest tk (ram_cons (re_var 1) (ram_cons (re_var 2) (ram_cons (re_var 3) ram_nil)))))) (rs_one (rs_if (rt_cmp (op_eqB (u64 hr)) eqD_quiet (re_b (re_var 0)) (re_b re_int) (by first | exact nobehind _ (by decide) (by decide) | rfl)) (rs_one (rs_expr (re_call (ok_least_tilt (T := T)) (hr.mono (by decide)) rfl T.g_least_tilt T.F_least_tilt.kp T.b_least_tilt tk (ram_cons (re_var 1) (ram_cons (re_var 2) ram_nil))))) (rs_one (rs_expr (re_call (ok_count_level (T := T)) (hr.mono (by decide)) rfl T.g_count_level T.F_count_level.kp T.b_count_level tk (ram_cons (re_var 1) (ram_cons (re_var 2) ram_nil)))))))))))))) (.cons ⟨rfl, by decide, .inl T.c_BadSeats⟩ T.c_BadSeats
      (fun a oe cls d pn hz hf n p => rsh_rs (rs_one (rs_ret re_str)))
      (.cons ⟨rfl, by decide, .inl T.c_BadLoads⟩ T.c_BadLoads
      (fun a oe cls d pn hz hf n p => rsh_rs (rs_one (rs_ret re_str)))
      (.as (i := 4) rfl rfl ⟨rfl, by decide, .inl T.c_ChestError⟩ T.c_ChestError
      (fun a oe cls d pn hz hf n p => rsh_isi T.kit hz hf rfl T.n_isinstance (i := 4) rfl (.inl rfl) rfl T.c_BadStowing T.c_BadStowing re_str re_str)
      .nil))))
    (rs_one (rs_ret re_str)))
theorem sc__law_every : FnScope ["loads", "seats", "rows", "load", "longer", "row", "seat"] ["loads", "seats"] (defScope (topS 29)) := ⟨rfl, rfl, rfl, by decide +kernel, rfl, by decide +kernel, by decide +kernel⟩
theorem ok__law_every {T : Txt K mg} : FnOk P w K mg base (L2.CX P w) 1 T.a__law_every T.d__law_every ["loads", "seats"] (spD K mg [false, false] cf__law_every) :=
  fn_ok T.F__law_every sc__law_every rfl (by decide) fun cdv A outer s H E G hr =>
    have S := sc__law_every
    show PSs _ (defBody (topS 29)) (RS _ G (WF E) bd__law_every) from
    (rs_cons (rs_set (i := 2) S.nd rfl (.inl rfl) (rl_e (rl_lst (ra_cons (re_tup ra_nil) ra_nil))))
    (rs_cons (rs_for (passes_of rfl) rfl (by exact (ri_e (re_var 0))) (rg_nm (i := 3) S.nd rfl) (rs_cons (rs_set (i := 4) S.nd rfl (.inl rfl) (rl_e (rl_lst ra_nil)))
    (rs_cons (rs_for (passes_of rfl) rfl (by exact (ri_e (re_var 2))) (rg_nm (i := 5) S.nd rfl) (rs_one (rs_set (i := 4) S.nd rfl (.inl rfl) (re_op op_addD addD_quiet (re_var 4) (rl_e (rl_lc rfl S.nd (by exact (riw_b (re_b (re_var 1)))) (blkOk_by (own := [("seat", 6)]) (by kernel_rfl)) (fun _ _ _ _ _ => (rg_nm (i := 6) S.nd rfl)) (fun _ _ _ _ _ => (rts_one (rt_cmp (op_notInB (u65 hr)) notInD_quiet (re_b (re_var 6)) (re_b (re_var 5)) (by first | exact nobehind _ (by decide) (by decide) | rfl)))) (fun _ _ _ _ _ => (re_op op_addD addD_quiet (re_var 5) (re_tup (ra_cons (re_var 6) ra_nil))))))))))
    (rs_one (rs_set (i := 2) S.nd rfl (.inl rfl) (re_var 4))))))
    (rs_one (rs_ret (re_var 2)))))
theorem sc__law_seats : FnScope ["draws", "many", "k"] ["draws", "many"] (defScope (topS 28)) := ⟨rfl, rfl, rfl, by decide +kernel, rfl, by decide +kernel, by decide +kernel⟩
theorem ok__law_seats {T : Txt K mg} : FnOk P w K mg base (L2.CX P w) 1 T.a__law_seats T.d__law_seats ["draws", "many"] (spD K mg [false, false] cf__law_seats) :=
  fn_ok T.F__law_seats sc__law_seats rfl (by decide) fun cdv A outer s H E G hr =>
    have S := sc__law_seats
    show PSs _ (defBody (topS 28)) (RS _ G (WF E) bd__law_seats) from
    (rs_one (rs_ret (re_callTy call_tupleB tupleD_quiet rfl T.n_tuple boot_tuple (rab_cons (re_b (rl_e (rl_sortSet rfl rfl T.n_sorted rfl T.n_set (re_b (rl_e (rl_lc rfl S.nd (by exact (ri_w (ri_range1 rfl T.n_range (rab_cons (re_b (re_op op_addD addD_quiet (re_var 1) (re_op op_modD modD_quiet (re_callTy call_intB intD_quiet rfl T.n_int boot_int (rab_cons (re_b (re_ix ix_seqB ixD_quiet (re_b (re_var 0)) (re_b re_int) (fun _ _ => rfl))) rab_nil)) re_int))) rab_nil)))) (blkOk_by (own := [("k", 2)]) (by kernel_rfl)) (fun _ _ _ _ _ => (rg_nm (i := 2) S.nd rfl)) (fun _ _ _ _ _ => rts_nil) (fun _ _ _ _ _ => (re_op op_subD subD_quiet (re_op op_modD modD_quiet (re_callTy call_intB intD_quiet rfl T.n_int boot_int (rab_cons (re_b (re_ix ix_seqB ixD_quiet (re_b (re_var 0)) (re_b (re_op op_addD addD_quiet re_int (re_var 2))) (fun _ _ => rfl))) rab_nil)) re_int) re_int)))))))) rab_nil))))
theorem sc__law_sum : FnScope ["loads", "stowing", "k"] ["loads", "stowing"] (defScope (topS 30)) := ⟨rfl, rfl, rfl, by decide +kernel, rfl, by decide +kernel, by decide +kernel⟩
theorem ok__law_sum {T : Txt K mg} : FnOk P w K mg base (L2.CX P w) 1 T.a__law_sum T.d__law_sum ["loads", "stowing"] (spD K mg [false, false] cf__law_sum) :=
  fn_ok T.F__law_sum sc__law_sum rfl (by decide) fun cdv A outer s H E G hr =>
    have S := sc__law_sum
    show PSs _ (defBody (topS 30)) (RS _ G (WF E) bd__law_sum) from
    (rs_one (rs_ret (re_callB (call_sumB rfl) sumD_quiet rfl T.n_sum boot_sum (rab_cons (re_b (rl_e (rl_lc rfl S.nd (by exact (ri_w (ri_range1 rfl T.n_range (rab_cons (re_b (re_callB call_lenB lenD_quiet rfl T.n_len boot_len (rab_cons (re_b (re_var 0)) rab_nil))) rab_nil)))) (blkOk_by (own := [("k", 2)]) (by kernel_rfl)) (fun _ _ _ _ _ => (rg_nm (i := 2) S.nd rfl)) (fun _ _ _ _ _ => rts_nil) (fun _ _ _ _ _ => (re_op op_mulD mulD_quiet (re_ix ix_seqB ixD_quiet (re_b (re_var 0)) (re_b (re_var 2)) (fun _ _ => rfl)) (re_ix ix_seqB ixD_quiet (re_b (re_var 1)) (re_b (re_var 2)) (fun _ _ => rfl))))))) rab_nil))))
theorem sc_law : FnScope ["script", "draws", "turn", "seats", "loads", "k", "rows", "tilts", "row", "best", "tilt", "mirror", "seat", "told", "wrong", "way"] ["script"] (defScope (topS 32)) := ⟨rfl, rfl, rfl, by decide +kernel, rfl, by decide +kernel, by decide +kernel⟩
theorem ok_law {T : Txt K mg} : FnOk P w K mg base (L2.CX P w) 6 T.a_law T.d_law ["script"] (spD K mg [true] cf_law) :=
  fn_ok T.F_law sc_law rfl (by decide) fun cdv A outer s H E G hr =>
    have S := sc_law
    show PSs _ (defBody (topS 32)) (RS _ G (WF E) bd_law) from
    (rs_cons (rs_set (i := 1) S.nd rfl (.inr rfl) (re_call (ok__law_draws (T := T)) (hr.mono (by decide)) rfl T.g__law_draws T.F__law_draws.kp T.b__law_draws (takes_of rfl rfl rfl rfl) (ram_consB (rb_var 0) (ram_cons re_int ram_nil))))
    (rs_cons (rs_for (passes_of rfl) rfl (by exact (ri_range1 rfl T.n_range (rab_cons (re_b re_int) rab_nil))) (rg_nm (i := 2) S.nd rfl) (rs_cons (rs_set (i := 3) S.nd rfl (.inr rfl) (re_call (ok__law_seats (T := T)) (hr.mono (by decide)) rfl T.g__law_seats T.F__law_seats.kp T.b__law_seats (takes_of rfl rfl rfl rfl) (ram_cons (re_sl sl_seqB slD_quiet (re_b (re_var 1)) (ro_some (re_op op_mulD mulD_quiet re_int (re_var 2))) ro_none) (ram_cons re_int ram_nil))))
    (rs_cons (rs_set (i := 4) S.nd rfl (.inr rfl) (re_callTy call_tupleB tupleD_quiet rfl T.n_tuple boot_tuple (rab_cons (re_b (rl_e (rl_lc rfl S.nd (by exact (ri_w (ri_range1 rfl T.n_range (rab_cons (re_b (re_callB (call_minB rfl (u65 hr)) minD_quiet rfl T.n_min boot_min (rab_cons (re_b (re_callB call_lenB lenD_quiet rfl T.n_len boot_len (rab_cons (re_b (re_var 3)) rab_nil))) (rab_cons (re_b (re_op op_addD addD_quiet re_int (re_op op_modD modD_quiet (re_callTy call_intB intD_quiet rfl T.n_int boot_int (rab_cons (re_b (re_ix ix_seqB ixD_quiet (re_b (re_var 1)) (re_b (re_op op_addD addD_quiet re_int (re_var 2))) (fun _ _ => rfl))) rab_nil)) re_int))) rab_nil)))) rab_nil)))) (blkOk_by (own := [("k", 5)]) (by kernel_rfl)) (fun _ _ _ _ _ => (rg_nm (i := 5) S.nd rfl)) (fun _ _ _ _ _ => rts_nil) (fun _ _ _ _ _ => (re_op op_addD addD_quiet re_int (re_op op_modD modD_quiet (re_callTy call_intB intD_quiet rfl T.n_int boot_int (rab_cons (re_b (re_ix ix_seqB ixD_quiet (re_b (re_var 1)) (re_b (re_op op_addD addD_quiet re_int (re_var 5))) (fun _ _ => rfl))) rab_nil)) re_int)))))) rab_nil)))
    (rs_cons (rs_set (i := 6) S.nd rfl (.inl rfl) (re_call (ok__law_every (T := T)) (hr.mono (by decide)) rfl T.g__law_every T.F__law_every.kp T.b__law_every (takes_of rfl rfl rfl rfl) (ram_cons (re_var 4) (ram_cons (re_var 3) ram_nil))))
    (rs_cons (rs_setLc (i := 7) rfl S.nd rfl rfl rfl (by exact (riw_b (re_b (re_var 6)))) (blkOk_by (own := [("row", 8)]) (by kernel_rfl)) (fun _ _ _ _ _ => (rg_nm (i := 8) S.nd rfl)) (fun _ _ _ _ _ => rts_nil) (fun _ _ _ _ _ => (re_tup (ra_cons (re_call (ok__law_sum (T := T)) (hr.mono (by decide)) rfl T.g__law_sum T.F__law_sum.kp T.b__law_sum takes0 (ram_cons (re_var 4) (ram_cons (re_var 8) ram_nil))) (ra_cons (re_var 8) ra_nil)))))
    (rs_cons (rs_set (i := 9) S.nd rfl (.inl rfl) (re_callB (call_minB rfl (u65 hr)) minD_quiet rfl T.n_min boot_min (rab_cons (re_b (rl_e (rl_lc rfl S.nd (by exact (riw_b (re_b (re_var 7)))) (blkOk_by (own := [("tilt", 10), ("row", 8)]) (by kernel_rfl)) (fun _ _ _ _ _ => (rg_tp rfl (rgs_cons (rg_nm (i := 10) S.nd rfl) (rgs_cons (rg_nm (i := 8) S.nd rfl) rgs_nil)))) (fun _ _ _ _ _ => rts_nil) (fun _ _ _ _ _ => (re_tup (ra_cons (re_callB (call_maxB rfl (u65 hr)) maxD_quiet rfl T.n_max boot_max (rab_cons (re_b (re_var 10)) (rab_cons (re_b (re_op op_subD subD_quiet re_int (re_var 10))) rab_nil))) (ra_cons (re_var 10) (ra_cons (re_var 8) ra_nil)))))))) rab_nil)))
    (rs_cons (rs_if (rt_w (rw_or (rt_cmp (op_neB (u64 hr)) neD_quiet (re_b (re_call (ok_least_tilt (T := T)) (hr.mono (by decide)) rfl T.g_least_tilt T.F_least_tilt.kp T.b_least_tilt (takes_of rfl rfl rfl rfl) (ram_cons (re_var 4) (ram_cons (re_var 3) ram_nil)))) (re_b (re_sl sl_seqB slD_quiet (re_b (re_var 9)) (ro_some re_int) ro_none)) (by first | exact nobehind _ (by decide) (by decide) | rfl)) (rw_or1 (rt_cmp (op_neB (u64 hr)) neD_quiet (re_b (re_call (ok_count_level (T := T)) (hr.mono (by decide)) rfl T.g_count_level T.F_count_level.kp T.b_count_level (takes_of rfl rfl rfl rfl) (ram_cons (re_var 4) (ram_cons (re_var 3) ram_nil)))) (re_b (re_callB call_lenB lenD_quiet rfl T.n_len boot_len (rab_cons (re_b (rl_e (rl_lc rfl S.nd (by exact (riw_b (re_b (re_var 7)))) (blkOk_by (own := [("tilt", 10), ("row", 8)]) (by kernel_rfl)) (fun _ _ _ _ _ => (rg_tp rfl (rgs_cons (rg_nm (i := 10) S.nd rfl) (rgs_cons (rg_nm (i := 8) S.nd rfl) rgs_nil)))) (fun _ _ _ _ _ => (rts_one (rt_cmp (op_eqB (u64 hr)) eqD_quiet (re_b (re_var 10)) (re_b re_int) (by first | exact nobehind _ (by decide) (by decide) | rfl)))) (fun _ _ _ _ _ => (re_var 10))))) rab_nil))) (by first | exact nobehind _ (by decide) (by decide) | rfl))))) (rs_one (rs_ret re_bl)) rs_nil)
    (rs_cons (rs_for (passes_of rfl) rfl (by exact (ri_e (re_tup (ra_cons (re_ix ix_seqB ixD_quiet (re_b (re_var 6)) (re_b re_int) (fun _ _ => rfl)) (ra_cons (re_ix ix_seqB ixD_quiet (re_b (re_var 6)) (re_b (re_un un_negD negD_quiet re_int)) (fun _ _ => rfl)) (ra_cons (re_ix ix_seqB ixD_quiet (re_b (re_var 6)) (re_b (re_op op_modD modD_quiet (re_callTy call_intB intD_quiet rfl T.n_int boot_int (rab_cons (re_b (re_ix ix_seqB ixD_quiet (re_b (re_var 1)) (re_b (re_op op_addD addD_quiet re_int (re_var 2))) (fun _ _ => rfl))) rab_nil)) (re_callB call_lenB lenD_quiet rfl T.n_len boot_len (rab_cons (re_b (re_var 6)) rab_nil)))) (fun _ _ => rfl)) ra_nil)))))) (rg_nm (i := 8) S.nd rfl) (rs_one (rs_if (rt_cmp (op_neB (u64 hr)) neD_quiet (re_b (re_call (ok_tilt_of (T := T)) (hr.mono (by decide)) rfl T.g_tilt_of T.F_tilt_of.kp T.b_tilt_of (takes_of rfl rfl rfl rfl) (ram_cons (re_var 4) (ram_cons (re_var 3) (ram_cons (re_var 8) ram_nil))))) (re_b (re_call (ok__law_sum (T := T)) (hr.mono (by decide)) rfl T.g__law_sum T.F__law_sum.kp T.b__law_sum (takes_of rfl rfl rfl rfl) (ram_cons (re_var 4) (ram_cons (re_var 8) ram_nil)))) (by first | exact nobehind _ (by decide) (by decide) | rfl)) (rs_one (rs_ret re_bl)) rs_nil)))
    (rs_cons (rs_set (i := 11) S.nd rfl (.inl rfl) (re_callTy call_tupleB tupleD_quiet rfl T.n_tuple boot_tuple (rab_cons (re_b (rl_e (rl_lc rfl S.nd (by exact (riw_b (re_b (re_st st_seqB stD_quiet (re_b (re_var 3)) (ro_some (re_un un_negD negD_quiet re_int)))))) (blkOk_by (own := [("seat", 12)]) (by kernel_rfl)) (fun _ _ _ _ _ => (rg_nm (i := 12) S.nd rfl)) (fun _ _ _ _ _ => rts_nil) (fun _ _ _ _ _ => (re_op op_subD subD_quiet re_int (re_var 12)))))) rab_nil)))
    (rs_cons (rs_set (i := 13) S.nd rfl (.inl rfl) (re_call (ok_least_tilt (T := T)) (hr.mono (by decide)) rfl T.g_least_tilt T.F_least_tilt.kp T.b_least_tilt (takes_of rfl rfl rfl rfl) (ram_cons (re_var 4) (ram_cons (re_var 11) ram_nil))))
    (rs_cons (rs_if (rt_w (rw_or (rt_cmp (op_neB (u64 hr)) neD_quiet (re_b (re_callB (call_maxB rfl (u65 hr)) maxD_quiet rfl T.n_max boot_max (rab_cons (re_b (re_ix ix_seqB ixD_quiet (re_b (re_var 13)) (re_b re_int) (fun _ _ => rfl))) (rab_cons (re_b (re_op op_subD subD_quiet re_int (re_ix ix_seqB ixD_quiet (re_b (re_var 13)) (re_b re_int) (fun _ _ => rfl)))) rab_nil)))) (re_b (re_ix ix_seqB ixD_quiet (re_b (re_var 9)) (re_b re_int) (fun _ _ => rfl))) (by first | exact nobehind _ (by decide) (by decide) | rfl)) (rw_or (rt_cmp (op_neB (u64 hr)) neD_quiet (re_b (re_call (ok_count_level (T := T)) (hr.mono (by decide)) rfl T.g_count_level T.F_count_level.kp T.b_count_level (takes_of rfl rfl rfl rfl) (ram_cons (re_var 4) (ram_cons (re_var 11) ram_nil)))) (re_b (re_call (ok_count_level (T := T)) (hr.mono (by decide)) rfl T.g_count_level T.F_count_level.kp T.b_count_level (takes_of rfl rfl rfl rfl) (ram_cons (re_var 4) (ram_cons (re_var 3) ram_nil)))) (by first | exact nobehind _ (by decide) (by decide) | rfl)) (rw_or1 (rt_cmp (op_neB (u64 hr)) neD_quiet (re_b (re_call (ok_tilt_of (T := T)) (hr.mono (by decide)) rfl T.g_tilt_of T.F_tilt_of.kp T.b_tilt_of (takes_of rfl rfl rfl rfl) (ram_cons (re_var 4) (ram_cons (re_var 11) (ram_cons (re_callTy call_tupleB tupleD_quiet rfl T.n_tuple boot_tuple (rab_cons (re_b (rl_e (rl_lc rfl S.nd (by exact (riw_b (re_b (re_ix ix_seqB ixD_quiet (re_b (re_var 6)) (re_b re_int) (fun _ _ => rfl))))) (blkOk_by (own := [("seat", 12)]) (by kernel_rfl)) (fun _ _ _ _ _ => (rg_nm (i := 12) S.nd rfl)) (fun _ _ _ _ _ => rts_nil) (fun _ _ _ _ _ => (re_op op_subD subD_quiet re_int (re_var 12)))))) rab_nil)) ram_nil))))) (re_b (re_op op_subD subD_quiet re_int (re_ix ix_seqB ixD_quiet (re_b (re_ix ix_seqB ixD_quiet (re_b (re_var 7)) (re_b re_int) (fun _ _ => rfl))) (re_b re_int) (fun _ _ => rfl)))) (by first | exact nobehind _ (by decide) (by decide) | rfl)))))) (rs_one (rs_ret re_bl)) rs_nil)
    (rs_cons (rs_for (passes_of rfl) rfl (by exact (ri_e (rl_e (rl_lst (ra_cons re_non (ra_cons (rl_e (rl_callTy call_listL listD_quiet rfl T.n_list boot_list (rab_cons (re_b (re_var 3)) rab_nil))) (ra_cons (re_tup ra_nil) (ra_cons (re_if (rt_cmp op_gtB gtD_quiet (re_b (re_callB call_lenB lenD_quiet rfl T.n_len boot_len (rab_cons (re_b (re_var 3)) rab_nil))) (re_b re_int) (by first | exact nobehind _ (by decide) (by decide) | rfl)) (re_st st_seqB stD_quiet (re_b (re_var 3)) (ro_some (re_un un_negD negD_quiet re_int))) re_int) (ra_cons (re_op op_addD addD_quiet (re_var 3) (re_sl sl_seqB slD_quiet (re_b (re_var 3)) (ro_some (re_un un_negD negD_quiet re_int)) ro_none)) (ra_cons (re_op op_addD addD_quiet (re_tup (ra_cons (re_un un_negD negD_quiet re_int) ra_nil)) (re_var 3)) (ra_cons (re_op op_addD addD_quiet (re_var 3) (re_tup (ra_cons re_int ra_nil))) (ra_cons (re_tup (ra_cons re_bl ra_nil)) (ra_cons (re_tup (ra_cons re_non ra_nil)) (ra_cons (re_callTy call_tupleB tupleD_quiet rfl T.n_tuple boot_tuple (rab_cons (re_b (rl_e (rl_listRg rfl rfl T.n_list (rr_1 rfl T.n_range re_int)))) rab_nil)) (ra_cons re_int ra_nil))))))))))))))) (rg_nm (i := 14) S.nd rfl) (rs_one (rs_if (rt_cmp (op_neB (u64 hr)) neD_quiet (re_b (rl_e (rl_lc rfl S.nd (by exact (ri_w (ri_range1 rfl T.n_range (rab_cons (re_b re_int) rab_nil)))) (blkOk_by (own := [("way", 15)]) (by kernel_rfl)) (fun _ _ _ _ _ => (rg_nm (i := 15) S.nd rfl)) (fun _ _ _ _ _ => rts_nil) (fun _ _ _ _ _ => (re_call (ok__law_error (T := T)) (hr.mono (by decide)) rfl T.g__law_error T.F__law_error.kp T.b__law_error takes0 (ram_cons (re_var 15) (ram_cons (re_var 4) (ram_cons (re_var 14) (ram_cons re_non ram_nil))))))))) (re_b (re_op op_mulD mulD_quiet (rl_e (rl_lst (ra_cons re_str ra_nil))) re_int)) (by first | exact nobehind _ (by decide) (by decide) | rfl)) (rs_one (rs_ret re_bl)) rs_nil)))
    (rs_cons (rs_for (passes_of rfl) rfl (by exact (ri_e (rl_e (rl_lst (ra_cons re_non (ra_cons (rl_e (rl_callTy call_listL listD_quiet rfl T.n_list boot_list (rab_cons (re_b (re_var 4)) rab_nil))) (ra_cons (re_tup ra_nil) (ra_cons (re_op op_addD addD_quiet (re_tup (ra_cons re_int ra_nil)) (re_sl sl_seqB slD_quiet (re_b (re_var 4)) (ro_some re_int) ro_none)) (ra_cons (re_op op_addD addD_quiet (re_tup (ra_cons re_int ra_nil)) (re_sl sl_seqB slD_quiet (re_b (re_var 4)) (ro_some re_int) ro_none)) (ra_cons (re_op op_addD addD_quiet (re_tup (ra_cons re_bl ra_nil)) (re_sl sl_seqB slD_quiet (re_b (re_var 4)) (ro_some re_int) ro_none)) (ra_cons (re_op op_addD addD_quiet (re_tup (ra_cons re_str ra_nil)) (re_sl sl_seqB slD_quiet (re_b (re_var 4)) (ro_some re_int) ro_none)) (ra_cons (re_op op_mulD mulD_quiet (re_tup (ra_cons re_int ra_nil)) (re_op op_addD addD_quiet (re_callB call_lenB lenD_quiet rfl T.n_len boot_len (rab_cons (re_b (re_var 3)) rab_nil)) re_int)) (ra_cons (re_op op_mulD mulD_quiet (re_tup (ra_cons re_int ra_nil)) re_int) (ra_cons re_int ra_nil)))))))))))))) (rg_nm (i := 14) S.nd rfl) (rs_one (rs_if (rt_cmp (op_neB (u64 hr)) neD_quiet (re_b (rl_e (rl_lc rfl S.nd (by exact (ri_w (ri_range1 rfl T.n_range (rab_cons (re_b re_int) rab_nil)))) (blkOk_by (own := [("way", 15)]) (by kernel_rfl)) (fun _ _ _ _ _ => (rg_nm (i := 15) S.nd rfl)) (fun _ _ _ _ _ => rts_nil) (fun _ _ _ _ _ => (re_call (ok__law_error (T := T)) (hr.mono (by decide)) rfl T.g__law_error T.F__law_error.kp T.b__law_error takes0 (ram_cons (re_var 15) (ram_cons (re_var 14) (ram_cons (re_var 3) (ram_cons re_non ram_nil))))))))) (re_b (re_op op_mulD mulD_quiet (rl_e (rl_lst (ra_cons re_str ra_nil))) re_int)) (by first | exact nobehind _ (by decide) (by decide) | rfl)) (rs_one (rs_ret re_bl)) rs_nil)))
    (rs_cons (rs_set (i := 8) S.nd rfl (.inl rfl) (re_ix ix_seqB ixD_quiet (re_b (re_var 6)) (re_b re_int) (fun _ _ => rfl)))
    (rs_one (rs_for (passes_of rfl) rfl (by exact (ri_e (rl_e (rl_lst (ra_cons re_non (ra_cons (rl_e (rl_callTy call_listL listD_quiet rfl T.n_list boot_list (rab_cons (re_b (re_var 8)) rab_nil))) (ra_cons (re_sl sl_seqB slD_quiet (re_b (re_var 8)) (ro_some re_int) ro_none) (ra_cons (re_op op_addD addD_quiet (re_var 8) (re_tup (ra_cons re_int ra_nil))) (ra_cons (re_op op_addD addD_quiet (re_tup (ra_cons re_int ra_nil)) (re_sl sl_seqB slD_quiet (re_b (re_var 8)) (ro_some re_int) ro_none)) (ra_cons (re_op op_addD addD_quiet (re_tup (ra_cons re_non ra_nil)) (re_sl sl_seqB slD_quiet (re_b (re_var 8)) (ro_some re_int) ro_none)) (ra_cons (re_if (rt_cmp op_gtB gtD_quiet (re_b (re_callB call_lenB lenD_quiet rfl T.n_len boot_len (rab_cons (re_b (re_var 8)) rab_nil))) (re_b re_int) (by first | exact nobehind _ (by decide) (by decide) | rfl)) (re_op op_mulD mulD_quiet (re_sl sl_seqB slD_quiet (re_b (re_var 8)) ro_none (ro_some re_int)) (re_callB call_lenB lenD_quiet rfl T.n_len boot_len (rab_cons (re_b (re_var 8)) rab_nil))) re_int) (ra_cons (re_op op_addD addD_quiet (re_tup (ra_cons re_bl ra_nil)) (re_sl sl_seqB slD_quiet (re_b (re_var 8)) (ro_some re_int) ro_none)) (ra_cons re_int ra_nil))))))))))))) (rg_nm (i := 14) S.nd rfl) (rs_one (rs_if (rt_cmp (op_neB (u64 hr)) neD_quiet (re_b (rl_e (rl_lc rfl S.nd (by exact (ri_w (ri_range1 rfl T.n_range (rab_cons (re_b re_int) rab_nil)))) (blkOk_by (own := [("way", 15)]) (by kernel_rfl)) (fun _ _ _ _ _ => (rg_nm (i := 15) S.nd rfl)) (fun _ _ _ _ _ => rts_nil) (fun _ _ _ _ _ => (re_call (ok__law_error (T := T)) (hr.mono (by decide)) rfl T.g__law_error T.F__law_error.kp T.b__law_error takes0 (ram_cons (re_var 15) (ram_cons (re_var 4) (ram_cons (re_var 3) (ram_cons (re_var 14) ram_nil))))))))) (re_b (re_op op_mulD mulD_quiet (rl_e (rl_lst (ra_cons re_str ra_nil))) re_int)) (by first | exact nobehind _ (by decide) (by decide) | rfl)) (rs_one (rs_ret re_bl)) rs_nil))))))))))))))))))
    (rs_cons (rs_if (rt_cmp (op_neB (u64 hr)) neD_quiet (re_b (re_call (ok_least_tilt (T := T)) (hr.mono (by decide)) rfl T.g_least_tilt T.F_least_tilt.kp T.b_least_tilt (takes_of rfl rfl rfl rfl) (ram_cons (re_tup (ra_cons re_int (ra_cons re_int ra_nil))) (ram_cons (re_tup (ra_cons (re_un un_negD negD_quiet re_int) (ra_cons (re_un un_negD negD_quiet re_int) (ra_cons re_int (ra_cons re_int ra_nil))))) ram_nil)))) (re_b (re_tup (ra_cons (re_un un_negD negD_quiet re_int) (ra_cons (re_tup (ra_cons (re_un un_negD negD_quiet re_int) (ra_cons re_int ra_nil))) ra_nil)))) (by first | exact nobehind _ (by decide) (by decide) | rfl)) (rs_one (rs_ret re_bl)) rs_nil)
    (rs_one (rs_ret (re_and (re_cmp (op_eqB (u64 hr)) eqD_quiet (re_b (re_call (ok_least_tilt (T := T)) (hr.mono (by decide)) rfl T.g_least_tilt T.F_least_tilt.kp T.b_least_tilt (takes_of rfl rfl rfl rfl) (ram_cons (re_tup (ra_cons re_int (ra_cons re_int ra_nil))) (ram_cons (re_tup (ra_cons (re_un un_negD negD_quiet re_int) (ra_cons re_int ra_nil))) ram_nil)))) (re_b (re_tup (ra_cons re_int (ra_cons (re_tup (ra_cons (re_un un_negD negD_quiet re_int) (ra_cons re_int ra_nil))) ra_nil)))) (by first | exact nobehind _ (by decide) (by decide) | rfl)) (re_and (re_cmp (op_eqB (u64 hr)) eqD_quiet (re_b (re_call (ok_count_level (T := T)) (hr.mono (by decide)) rfl T.g_count_level T.F_count_level.kp T.b_count_level (takes_of rfl rfl rfl rfl) (ram_cons (re_tup (ra_cons re_int (ra_cons re_int ra_nil))) (ram_cons (re_tup (ra_cons (re_un un_negD negD_quiet re_int) (ra_cons re_int ra_nil))) ram_nil)))) (re_b re_int) (by first | exact nobehind _ (by decide) (by decide) | rfl)) (re_one (re_cmp (op_eqB (u64 hr)) eqD_quiet (re_b (re_call (ok_tilt_of (T := T)) (hr.mono (by decide)) rfl T.g_tilt_of T.F_tilt_of.kp T.b_tilt_of (takes_of rfl rfl rfl rfl) (ram_cons (re_tup (ra_cons re_int (ra_cons re_int ra_nil))) (ram_cons (re_tup (ra_cons (re_un un_negD negD_quiet re_int) (ra_cons re_int (ra_cons re_int ra_nil)))) (ram_cons (re_tup (ra_cons re_int (ra_cons (re_un un_negD negD_quiet re_int) ra_nil))) ram_nil))))) (re_b re_int) (by first | exact nobehind _ (by decide) (by decide) | rfl))))))))))
end
end Nk52

set_option Elab.async false
set_option linter.all false
set_option maxRecDepth 100000
set_option maxHeartbeats 4000000
namespace Den
open PySem PySem.Spec PyProof.Rows L2
/-! ### what the words compute -/
section
variable {α β : Type} {ρ : EnvD}
@[simp] theorem ok_b (a : α) (k : α → Rs β) : ((.ok a : Rs α) >>= k) = k a := id rfl
@[simp] theorem err_b (e : Err) (k : α → Rs β) : ((.error e : Rs α) >>= k) = .error e := id rfl
@[simp] theorem ok_m (a : α) (f : α → β) : (Except.map f (.ok a : Rs α)) = .ok (f a) := id rfl
@[simp] theorem err_m (e : Err) (f : α → β) : (Except.map f (.error e : Rs α)) = .error e := id rfl
@[simp] theorem ev_lit (d : PyData) : dLit d ρ = .ok d := id rfl
@[simp] theorem ev_var (i : Nat) : dVar i ρ = (match ρ[i]? with | some (.dat d) => .ok d | _ => stuck) := id rfl
@[simp] theorem ev_varB (i : Nat) : dVarB i ρ = (match ρ[i]? with | some (.dat d) => .ok d | some (.ol l) => .ok (.list l) | some (.fz l) => .ok (.list l) | _ => stuck) := id rfl
@[simp] theorem ev_op2 (f : PyData → PyData → Rs PyData) (a b : DE) : dOp2 f a b ρ = (a ρ >>= fun x => b ρ >>= fun y => f x y) := id rfl
@[simp] theorem ev_op1 (f : PyData → Rs PyData) (a : DE) : dOp1 f a ρ = (a ρ >>= f) := id rfl
@[simp] theorem ev_call (f : List PyData → Rs PyData) (a : DL) : dCall f a ρ = (a ρ >>= f) := id rfl
@[simp] theorem ev_callL (f : List PyData → Rs (List PyData)) (a : DL) : dCallL f a ρ = (a ρ >>= f) := id rfl
@[simp] theorem ev_nil : dNil ρ = .ok [] := id rfl
@[simp] theorem ev_cons (a : DE) (as : DL) : dCons a as ρ = (a ρ >>= fun x => as ρ >>= fun xs => .ok (x :: xs)) := id rfl
@[simp] theorem ev_tup (as : DL) : dTup as ρ = (as ρ >>= fun xs => if okLen xs.length then .ok (.tuple xs) else stuck) := id rfl
@[simp] theorem ev_list (as : DL) : dList as ρ = (as ρ >>= fun xs => if okLen xs.length then .ok xs else stuck) := id rfl
@[simp] theorem ev_lst (c : DL) : dLst c ρ = (c ρ).map .list := id rfl
@[simp] theorem ev_val (a : DE) : tVal a ρ = (a ρ >>= boolD) := id rfl
@[simp] theorem ev_and (a b : DT) : tAndD a b ρ = (a ρ >>= fun x => if x then b ρ else .ok false) := id rfl
@[simp] theorem ev_or (a b : DT) : tOrD a b ρ = (a ρ >>= fun x => if x then .ok true else b ρ) := id rfl
@[simp] theorem ev_not (a : DT) : tNotD a ρ = (a ρ >>= fun x => .ok (!x)) := id rfl
@[simp] theorem ev_if (t : DT) (a b : DE) : dIf t a b ρ = (t ρ >>= fun x => if x then a ρ else b ρ) := id rfl
@[simp] theorem ev_andV (a b : DE) : dAndV a b ρ = (a ρ >>= boolD >>= fun x => if x then b ρ else .ok (.bool false)) := id rfl
@[simp] theorem ev_orV (a b : DE) : dOrV a b ρ = (a ρ >>= boolD >>= fun x => if x then .ok (.bool true) else b ρ) := id rfl
@[simp] theorem ev_notV (a : DE) : dNotV a ρ = (a ρ >>= boolD >>= fun x => .ok (.bool (!x))) := id rfl
@[simp] theorem ev_chain (f g : PyData → PyData → Rs PyData) (a b c : DE) : dChain f g a b c ρ = (a ρ >>= fun x => b ρ >>= fun y => f x y >>= boolD >>= fun t => if t then c ρ >>= fun z => g y z else .ok (.bool false)) := id rfl
@[simp] theorem ev_isi (n : String) (a : DE) : dIsi n a ρ = (a ρ >>= fun x => .ok (.bool (isinstD n x))) := id rfl
@[simp] theorem ev_bool (b : Bool) : boolD (.bool b) = .ok b := id rfl
@[simp] theorem ev_oN : oNone ρ = .ok none := id rfl
@[simp] theorem ev_oS (a : DE) : oSome a ρ = (a ρ >>= fun d => match d with | .int i => .ok (some i) | _ => stuck) := id rfl
@[simp] theorem ev_sl (f : PyData → Option Int → Option Int → Rs PyData) (a : DE) (lo hi : DO) : dSl f a lo hi ρ = (a ρ >>= fun x => lo ρ >>= fun l => hi ρ >>= fun u => f x l u) := id rfl
@[simp] theorem ev_st (f : PyData → Int → Rs PyData) (a : DE) (s : DO) : dSt f a s ρ = (a ρ >>= fun x => s ρ >>= fun o => match o with | some k => f x k | none => stuck) := id rfl
@[simp] theorem ev_iD (a : DE) : iD a ρ = (a ρ >>= itemsD) := id rfl
@[simp] theorem ev_yes : tYesD ρ = .ok true := id rfl
/-! statements -/
@[simp] theorem ev_lift_ok (a : α) (k : α → Rs Out) : lift (.ok a) ρ k = k a := id rfl
@[simp] theorem ev_lift_exc (n : String) (p : Option (String × PyData)) (k : α → Rs Out) : lift (.error (.exc n p)) ρ k = .ok (.xc n p ρ) := id rfl
@[simp] theorem ev_skip : sSkip ρ = .ok (.nx ρ) := id rfl
theorem ev_seq_nx {a b : DS} {ρ' : EnvD} (h : a ρ = .ok (.nx ρ')) : sSeq a b ρ = b ρ' := by unfold sSeq; rw [h]
theorem ev_seq_rt {a b : DS} {d : PyData} (h : a ρ = .ok (.rt d)) : sSeq a b ρ = .ok (.rt d) := by unfold sSeq; rw [h]
theorem ev_seq_xc {a b : DS} {n : String} {p} {ρ' : EnvD} (h : a ρ = .ok (.xc n p ρ')) : sSeq a b ρ = .ok (.xc n p ρ') := by unfold sSeq; rw [h]
@[simp] theorem ev_seq (a b : DS) : sSeq a b ρ = (match a ρ with | .ok (.nx ρ') => b ρ' | r => r) := id rfl
@[simp] theorem ev_sIf (t : DT) (a b : DS) : sIf t a b ρ = lift (t ρ) ρ fun x => if x then a ρ else b ρ := id rfl
@[simp] theorem ev_set (i : Nat) (e : DE) : sSet i e ρ = lift (e ρ) ρ fun d => .ok (.nx (ρ.set i (.dat d))) := id rfl
@[simp] theorem ev_own (i : Nat) (e : DL) : sOwn i e ρ = lift (e ρ) ρ fun ds => .ok (.nx (ρ.set i (.ol ds))) := id rfl
@[simp] theorem ev_sTg (t : Tg) (e : DE) : sTg t e ρ = lift (e ρ) ρ fun d => t.d ρ d >>= fun ρ' => .ok (.nx ρ') := id rfl
@[simp] theorem ev_drop (e : DE) : sDrop e ρ = lift (e ρ) ρ fun _ => .ok (.nx ρ) := id rfl
@[simp] theorem ev_ret (e : DE) : sRet e ρ = lift (e ρ) ρ fun d => .ok (.rt d) := id rfl
@[simp] theorem ev_retN : sRetN ρ = .ok (.rt .none) := id rfl
@[simp] theorem ev_raise (n : String) : sRaise n ρ = .ok (.xc n none ρ) := id rfl
@[simp] theorem ev_for (it : DL) (t : Tg) (b : DS) : sFor it t b ρ = lift (it ρ) ρ fun ds => forD t b ds ρ := id rfl
@[simp] theorem ev_stuck : sStuck ρ = stuck := id rfl
@[simp] theorem ev_brk : sBreak ρ = .ok (.bk ρ) := id rfl
@[simp] theorem ev_cnt : sCont ρ = .ok (.ct ρ) := id rfl
@[simp] theorem ev_nm (i : Nat) (d : PyData) : (Tg.nm i).d ρ d = .ok (ρ.set i (.dat d)) := by rw [Tg.d]
@[simp] theorem ev_tp (ts : List Tg) (ds : List PyData) : (Tg.tp ts).d ρ (.tuple ds) = Tg.dsx ts ρ ds := by rw [Tg.d]
@[simp] theorem ev_t0 : Tg.dsx [] ρ [] = .ok ρ := by rw [Tg.dsx]
@[simp] theorem ev_t1 (t : Tg) (ts : List Tg) (d : PyData) (ds : List PyData) : Tg.dsx (t :: ts) ρ (d :: ds) = (t.d ρ d >>= fun ρ' => Tg.dsx ts ρ' ds) := by rw [Tg.dsx]
@[simp] theorem ev_upd (i : Nat) (cs : DL) (f : List PyData → List PyData → Rs (List PyData)) : sUpd i cs f ρ = (match ρ[i]? with | some (.ol ds) => lift (cs ρ) ρ fun as => f ds as >>= fun ds' => .ok (.nx (ρ.set i (.ol ds'))) | _ => stuck) := id rfl
@[simp] theorem ev_retOwn (i : Nat) : sRetOwn i ρ = (match ρ[i]? with | some (.ol ds) => .ok (.rt (.list ds)) | some (.dat d) => .ok (.rt d) | _ => stuck) := id rfl
@[simp] theorem ev_par2 (i j : Nat) (a b : DE) : sPar2 i j a b ρ = lift (a ρ >>= fun x => b ρ >>= fun y => .ok (x, y)) ρ fun p => .ok (.nx ((ρ.set i (.dat p.1)).set j (.dat p.2))) := by
  unfold sPar2
  simp only [ev_cons, ev_nil]
  cases a ρ with
  | error e => cases e <;> rfl
  | ok x => cases b ρ with
    | error e => cases e <;> rfl
    | ok y => rfl
/-! outputs -/
@[simp] theorem out_rt (d : PyData) : outD (.ok (.rt d)) = .ok d := id rfl
@[simp] theorem out_nx (ρ : EnvD) : outD (.ok (.nx ρ)) = .ok .none := id rfl
@[simp] theorem out_xc (n : String) (p : Option (String × PyData)) (ρ : EnvD) : outD (.ok (.xc n p ρ)) = .error (.exc n p) := id rfl
/-! operators -/
@[simp] theorem add_i (i j : Int) : addD (.int i) (.int j) = .ok (.int (i + j)) := id rfl
@[simp] theorem sub_i (i j : Int) : subD (.int i) (.int j) = .ok (.int (i - j)) := id rfl
@[simp] theorem neg_i (i : Int) : negD (.int i) = .ok (.int (-i)) := id rfl
@[simp] theorem lt_i (i j : Int) : ltD (.int i) (.int j) = .ok (.bool (decide (i < j))) := id rfl
@[simp] theorem le_i (i j : Int) : leD (.int i) (.int j) = .ok (.bool (decide (i ≤ j))) := id rfl
@[simp] theorem gt_i (i j : Int) : gtD (.int i) (.int j) = .ok (.bool (decide (j < i))) := id rfl
@[simp] theorem ge_i (i j : Int) : geD (.int i) (.int j) = .ok (.bool (decide (j ≤ i))) := id rfl
@[simp] theorem abs_i (i : Int) : absD [.int i] = .ok (.int (if i < 0 then -i else i)) := id rfl
@[simp] theorem int_i (i : Int) : intD [.int i] = .ok (.int i) := id rfl
@[simp] theorem len_l (xs : List PyData) : lenD [.list xs] = .ok (.int xs.length) := id rfl
@[simp] theorem len_t (xs : List PyData) : lenD [.tuple xs] = .ok (.int xs.length) := id rfl
@[simp] theorem tup_l (xs : List PyData) : tupleD [.list xs] = .ok (.tuple xs) := id rfl
@[simp] theorem tup_t (xs : List PyData) : tupleD [.tuple xs] = .ok (.tuple xs) := id rfl
@[simp] theorem lst_l (xs : List PyData) : listD [.list xs] = .ok xs := id rfl
@[simp] theorem lst_t (xs : List PyData) : listD [.tuple xs] = .ok xs := id rfl
@[simp] theorem it_l (xs : List PyData) : itemsD (.list xs) = .ok xs := id rfl
@[simp] theorem it_t (xs : List PyData) : itemsD (.tuple xs) = .ok xs := id rfl
@[simp] theorem sl_l (xs : List PyData) (lo hi) : slD (.list xs) lo hi = .ok (.list (cutD xs lo hi)) := id rfl
@[simp] theorem sl_t (xs : List PyData) (lo hi) : slD (.tuple xs) lo hi = .ok (.tuple (cutD xs lo hi)) := id rfl
@[simp] theorem min_ii (i j : Int) : minD [.int i, .int j] = .ok (.int (min2 i j)) := id rfl
@[simp] theorem max_ii (i j : Int) : maxD [.int i, .int j] = .ok (.int (max2 i j)) := id rfl
@[simp] theorem is_n (d : PyData) : isD d .none = .ok (.bool (noneD d)) := id rfl
@[simp] theorem isn_n (d : PyData) : isNotD d .none = .ok (.bool (!noneD d)) := id rfl
theorem eq_ok {d e : PyData} (h1 : SeqAt.shaped d = true) (h2 : SeqAt.shaped e = true) : eqD d e = .ok (.bool (PyData.eqv d e)) := by unfold eqD; rw [h1, h2]; rfl
theorem ne_ok {d e : PyData} (h1 : SeqAt.shaped d = true) (h2 : SeqAt.shaped e = true) : neD d e = .ok (.bool (!PyData.eqv d e)) := by unfold neD; rw [h1, h2]; rfl
@[simp] theorem sh_i (i : Int) : SeqAt.shaped (.int i) = true := by simp [SeqAt.shaped, PyData.canLay0, PyData.depth]
@[simp] theorem eq_i (i j : Int) : eqD (.int i) (.int j) = .ok (.bool (decide (i = j))) := by
  rw [eq_ok (sh_i i) (sh_i j)]
  simp [PyData.eqv]
  exact (Bool.beq_eq_decide_eq i j)
@[simp] theorem ne_i (i j : Int) : neD (.int i) (.int j) = .ok (.bool (!decide (i = j))) := by
  rw [ne_ok (sh_i i) (sh_i j)]
  simp [PyData.eqv]
  exact (Bool.beq_eq_decide_eq i j)
theorem mul_i {i j : Int} (h : i.natAbs.log2 + j.natAbs.log2 < 1000000) : mulD (.int i) (.int j) = .ok (.int (i * j)) := by
  show (if _ then _ else _) = _
  rw [if_pos h]
theorem fdiv_i {i j : Int} (h : j ≠ 0 ∧ j.natAbs < 1073741824) : fdivD (.int i) (.int j) = .ok (.int (i.fdiv j)) := by
  show (if _ then _ else _) = _
  rw [if_pos h]
theorem mod_i {i j : Int} (h : j ≠ 0) : modD (.int i) (.int j) = .ok (.int (i.fmod j)) := by
  show (if _ then _ else _) = _
  rw [if_pos h]
end
/-! ### typed rows -/
abbrev eI (ns : List Int) : List PyData := ns.map .int
abbrev tI (ns : List Int) : PyData := .tuple (ns.map .int)
abbrev lI (ns : List Int) : PyData := .list (ns.map .int)
theorem intsOf_map : ∀ ns : List Int, intsOf (eI ns) = some ns
  | [] => rfl
  | n :: ns => by
    show (intsOf (eI ns)).map (n :: ·) = _
    rw [intsOf_map ns]
    rfl
theorem boolsOf_map {α : Type} (p : α → Bool) : ∀ xs : List α, boolsOf (xs.map fun x => .bool (p x)) = some (xs.map p)
  | [] => rfl
  | x :: xs => by
    show (boolsOf (xs.map fun x => .bool (p x))).map (p x :: ·) = _
    rw [boolsOf_map p xs]
    rfl
@[simp] theorem sum_map (ns : List Int) : sumD [.list (ns.map .int)] = .ok (.int ns.sum) := by
  show (match intsOf (eI ns) with | some ns => _ | none => _) = _
  rw [intsOf_map]
theorem all_map {α : Type} (p : α → Bool) (xs : List α) : allD [.list (xs.map fun x => .bool (p x))] = .ok (.bool (xs.all p)) := by
  show (match boolsOf _ with | some ns => _ | none => _) = _
  rw [boolsOf_map]
  simp [List.all_map, Function.comp_def]
theorem any_map {α : Type} (p : α → Bool) (xs : List α) : anyD [.list (xs.map fun x => .bool (p x))] = .ok (.bool (xs.any p)) := by
  show (match boolsOf _ with | some ns => _ | none => _) = _
  rw [boolsOf_map]
  simp [List.any_map, Function.comp_def]
theorem okLen_of {n : Nat} (h : n ≤ 1000000) : okLen n = true := decide_eq_true (by rw [sizeLine_eq]; omega)
@[simp] theorem ok0 : okLen 0 = true := okLen_of (by omega)
@[simp] theorem ok1 : okLen 1 = true := okLen_of (by omega)
@[simp] theorem ok2 : okLen 2 = true := okLen_of (by omega)
@[simp] theorem ok3 : okLen 3 = true := okLen_of (by omega)
@[simp] theorem ok4 : okLen 4 = true := okLen_of (by omega)
@[simp] theorem ok5 : okLen 5 = true := okLen_of (by omega)
theorem okLen_small : True := trivial
/-! ### comprehensions -/
def bodyC (t : Tg) (tt : DT) (e : DE) (ρ : EnvD) (d : PyData) : Rs (Option PyData) := t.d ρ d >>= fun ρ1 => tt ρ1 >>= fun b => if b then e ρ1 >>= fun y => .ok (some y) else .ok none
theorem compL_eq {α : Type} {t : Tg} {tt : DT} {e : DE} {ρ : EnvD} (enc : α → PyData) (f : α → Option PyData) : ∀ xs : List α, (∀ x ∈ xs, bodyC t tt e ρ (enc x) = .ok (f x)) → compL t tt e ρ (xs.map enc) = .ok (xs.filterMap f)
  | [], _ => rfl
  | x :: xs, h => by
    have hx := h x List.mem_cons_self
    have ih := compL_eq enc f xs fun y hy => h y (List.mem_cons_of_mem _ hy)
    rw [List.map_cons, compL]
    unfold bodyC at hx
    obtain ⟨ρ1, h1, hx⟩ := ok_bind hx
    obtain ⟨b, h2, hx⟩ := ok_bind hx
    rw [h1, ok_b, h2, ok_b]
    cases b with
    | true =>
      obtain ⟨y, h3, hx⟩ := ok_bind (show (e ρ1 >>= fun y => .ok (some y)) = .ok (f x) from hx)
      have e4 : f x = some y := by
        have : (.ok (some y) : Rs (Option PyData)) = .ok (f x) := hx
        injection this.symm
      simp only [if_true, h3, ok_b, ih]
      rw [List.filterMap_cons, e4]
    | false =>
      have e4 : f x = none := by
        have : (.ok none : Rs (Option PyData)) = .ok (f x) := hx
        injection this.symm
      simp only [Bool.false_eq_true, if_false, ih]
      rw [List.filterMap_cons, e4]
theorem dComp_eq {α : Type} {it : DL} {vs : List Nat} {t : Tg} {tt : DT} {e : DE} {ρ : EnvD} {xs : List α} (enc : α → PyData) (f : α → Option PyData) (hi : it ρ = .ok (xs.map enc)) (hw : t.within vs = true) (hl : xs.length ≤ 1000000)
    (h : ∀ x ∈ xs, bodyC t tt e (wipeD ρ vs) (enc x) = .ok (f x)) : dComp it vs t tt e ρ = .ok (xs.filterMap f) := by
  unfold dComp
  rw [hi, ok_b, if_pos hw, compL_eq enc f xs h]
  show (if okLen (xs.filterMap f).length = true then _ else _) = _
  rw [if_pos (okLen_of (Nat.le_trans (List.length_filterMap_le _ _) hl))]
theorem dComp_map {α : Type} {it : DL} {vs : List Nat} {t : Tg} {tt : DT} {e : DE} {ρ : EnvD} {xs : List α} (enc : α → PyData) (g : α → PyData) (hi : it ρ = .ok (xs.map enc)) (hw : t.within vs = true) (hl : xs.length ≤ 1000000)
    (h : ∀ x ∈ xs, bodyC t tt e (wipeD ρ vs) (enc x) = .ok (some (g x))) : dComp it vs t tt e ρ = .ok (xs.map g) := by
  rw [dComp_eq enc (fun x => some (g x)) hi hw hl h]
  congr 1
  induction xs with
  | nil => rfl
  | cons x xs ih => simp
/-! ### loops -/
theorem forD_rel {α σ : Type} {t : Tg} {b : DS} (enc : α → PyData) (R : σ → EnvD → Prop) (step : σ → α → σ) : ∀ (xs : List α) (s : σ) (ρ : EnvD), (∀ s x ρ, x ∈ xs → R s ρ → ∃ ρ', ((t.d ρ (enc x) >>= fun ρ1 => b ρ1) = .ok (.nx ρ') ∨ (t.d ρ (enc x) >>= fun ρ1 => b ρ1) = .ok (.ct ρ')) ∧ R (step s x) ρ') → R s ρ →
    ∃ ρ', forD t b (xs.map enc) ρ = .ok (.nx ρ') ∧ R (xs.foldl step s) ρ'
  | [], s, ρ, _, r => ⟨ρ, rfl, r⟩
  | x :: xs, s, ρ, h, r => by
    obtain ⟨ρ1, hb, r1⟩ := h s x ρ List.mem_cons_self r
    obtain ⟨ρ2, h2, r2⟩ := forD_rel enc R step xs (step s x) ρ1 (fun s y ρ hy => h s y ρ (List.mem_cons_of_mem _ hy)) r1
    refine ⟨ρ2, ?_, r2⟩
    rw [List.map_cons, forD]
    rcases hb with hb | hb
    · obtain ⟨ρ0, h0, hb⟩ := ok_bind hb
      rw [h0, ok_b, hb, ok_b]
      exact h2
    · obtain ⟨ρ0, h0, hb⟩ := ok_bind hb
      rw [h0, ok_b, hb, ok_b]
      exact h2
theorem forD_ix0 {α : Type} {t : Tg} {b : DS} (enc : α → PyData) (R : Nat → EnvD → Prop) (ys : List α) : ∀ (xs : List α) (i : Nat) (ρ : EnvD), ys.drop i = xs → (∀ i x ρ, ys[i]? = some x → i < ys.length → R i ρ → ∃ ρ', ((t.d ρ (enc x) >>= fun ρ1 => b ρ1) = .ok (.nx ρ') ∨ (t.d ρ (enc x) >>= fun ρ1 => b ρ1) = .ok (.ct ρ')) ∧ R (i + 1) ρ') → R i ρ →
    ∃ ρ', forD t b (xs.map enc) ρ = .ok (.nx ρ') ∧ R (i + xs.length) ρ'
  | [], i, ρ, _, _, r => ⟨ρ, rfl, r⟩
  | x :: xs, i, ρ, e, h, r => by
    have hx : ys[i]? = some x := by
      have := congrArg (·[0]?) e
      simpa using this
    have hi : i < ys.length := (List.getElem?_eq_some_iff.mp hx).1
    obtain ⟨ρ1, hb, r1⟩ := h i x ρ hx hi r
    obtain ⟨ρ2, h2, r2⟩ := forD_ix0 enc R ys xs (i + 1) ρ1 (by rw [← List.drop_drop, e]; rfl) h r1
    refine ⟨ρ2, ?_, by rw [List.length_cons, show i + (xs.length + 1) = i + 1 + xs.length by omega]; exact r2⟩
    rw [List.map_cons, forD]
    rcases hb with hb | hb
    · obtain ⟨ρ0, h0, hb⟩ := ok_bind hb
      rw [h0, ok_b, hb, ok_b]
      exact h2
    · obtain ⟨ρ0, h0, hb⟩ := ok_bind hb
      rw [h0, ok_b, hb, ok_b]
      exact h2
/-- a loop by its invariant -/
theorem forD_ix {α : Type} {t : Tg} {b : DS} (enc : α → PyData) (R : Nat → EnvD → Prop) (xs : List α) {ρ : EnvD} (h : ∀ i x ρ, xs[i]? = some x → i < xs.length → R i ρ → ∃ ρ', ((t.d ρ (enc x) >>= fun ρ1 => b ρ1) = .ok (.nx ρ') ∨ (t.d ρ (enc x) >>= fun ρ1 => b ρ1) = .ok (.ct ρ')) ∧ R (i + 1) ρ') (r : R 0 ρ) :
    ∃ ρ', forD t b (xs.map enc) ρ = .ok (.nx ρ') ∧ R xs.length ρ' := by
  obtain ⟨ρ', h1, h2⟩ := forD_ix0 enc R xs xs 0 ρ rfl h r
  rw [Nat.zero_add] at h2
  exact ⟨ρ', h1, h2⟩
end Den

set_option Elab.async false
set_option linter.all false
set_option maxRecDepth 100000
set_option maxHeartbeats 4000000
namespace Den
open PySem PySem.Spec PyProof.Rows L2
/-! ### slices of typed rows -/
theorem cut_none {α : Type} (xs : List α) : cutD xs none none = xs := by
  unfold cutD
  simp [HT.sIx]
theorem cut_to {α : Type} (xs : List α) {k : Int} (h : 0 ≤ k) : cutD xs none (some k) = xs.take k.toNat := by
  unfold cutD
  simp only [HT.sIx, List.drop_zero, Nat.sub_zero]
  rw [if_neg (by omega)]
  by_cases hk : k.toNat ≤ xs.length
  · rw [Nat.min_eq_left hk]
  · rw [Nat.min_eq_right (by omega), List.take_of_length_le (Nat.le_refl _), List.take_of_length_le (by omega)]
theorem cut_from {α : Type} (xs : List α) {k : Int} (h : 0 ≤ k) : cutD xs (some k) none = xs.drop k.toNat := by
  unfold cutD
  simp only [HT.sIx]
  rw [if_neg (by omega)]
  by_cases hk : k.toNat ≤ xs.length
  · rw [Nat.min_eq_left hk, List.take_of_length_le (by simp)]
  · rw [Nat.min_eq_right (by omega), List.drop_of_length_le (Nat.le_refl _), List.drop_of_length_le (by omega), List.take_nil]
theorem atI_nat' {α : Type} {xs : List α} {k : Int} {x : α} (h0 : 0 ≤ k) (h : xs[k.toNat]? = some x) : atI xs k = some x := by
  obtain ⟨j, rfl⟩ := Int.eq_ofNat_of_zero_le h0
  exact atI_nat h
theorem log2_lt {i : Int} {n : Nat} (h0 : 0 ≤ i) (h : i < 2 ^ n) (hn : 0 < n) : i.natAbs.log2 < n := by
  rcases Nat.eq_zero_or_pos i.natAbs with e | e
  · rw [e]; simpa using hn
  · rw [Nat.log2_lt (by omega)]
    have : (i.natAbs : Int) = i := Int.natAbs_of_nonneg h0
    have h2 : (i.natAbs : Int) < 2 ^ n := by rw [this]; exact h
    exact_mod_cast h2
theorem mul_small {i j : Int} (hi : 0 ≤ i) (hi2 : i < 2 ^ 200) (hj : 0 ≤ j) (hj2 : j < 2 ^ 200) : mulD (.int i) (.int j) = .ok (.int (i * j)) := by
  refine mul_i ?_
  have a := log2_lt hi hi2 (by decide)
  have b := log2_lt hj hj2 (by decide)
  omega
theorem range1_ok {n : Int} (h0 : 0 ≤ n) (h : n < 2 ^ 62) : range1D [.int n] = .ok ((List.range n.toNat).map fun (i : Nat) => .int i) := by
  show (if okR n then .ok (rngL 0 n) else stuck) = _
  rw [if_pos (show okR n = true from decide_eq_true ⟨by omega, h⟩)]
  unfold rngL
  simp
/-! ### _law_draws -/
def bdDraws : DS :=
  (sSeq (sOwn 2 (dList dNil))
    (sSeq (sSet 3 (dLit (.int 7)))
    (sSeq (sFor (iD (dSl slD (dVarB 0) oNone (oSome (dLit (.int 63))))) (.nm 4) (sSeq (sSet 5 (dCall absD (dCons (dVar 4) dNil)))
    (sSeq (sSet 3 (dOp2 modD (dCall intD (dCons (dOp2 addD (dOp2 addD (dOp2 mulD (dVar 3) (dLit (.int 48271))) (dVar 5)) (dLit (.int 11))) dNil)) (dLit (.int 2147483647))))
    (sIf (tVal (dOp2 geD (dVar 5) (dOp2 powD (dLit (.int 10)) (dLit (.int 18))))) (sFor (dCallL range1D (dCons (dLit (.int 60)) dNil)) (.nm 6) (sIf (tVal (dOp2 gtD (dVar 5) (dLit (.int 0)))) (sSeq (sUpd 2 (dCons (dOp2 modD (dCall intD (dCons (dVar 5) dNil)) (dLit (.int 1009))) dNil) appF)
    (sSet 5 (dOp2 fdivD (dVar 5) (dLit (.int 1009))))) sSkip)) (sUpd 2 (dCons (dOp2 modD (dOp2 fdivD (dCall intD (dCons (dOp2 addD (dOp2 mulD (dVar 3) (dLit (.int 16807))) (dLit (.int 5))) dNil)) (dLit (.int 3))) (dLit (.int 65521))) dNil) appF)))))
    (sSeq (sFor (dCallL range1D (dCons (dVar 1) dNil)) (.nm 6) (sIf (tVal (dOp2 ltD (dCall lenD (dCons (dVarB 2) dNil)) (dVar 1))) (sSeq (sSet 3 (dOp2 modD (dCall intD (dCons (dOp2 addD (dOp2 addD (dOp2 mulD (dVar 3) (dLit (.int 69621))) (dVar 6)) (dLit (.int 1))) dNil)) (dLit (.int 2147483647))))
    (sUpd 2 (dCons (dOp2 modD (dOp2 fdivD (dCall intD (dCons (dVar 3) dNil)) (dLit (.int 7))) (dLit (.int 65521))) dNil) appF)) sSkip))
    (sRet (dSl slD (dVarB 2) oNone (oSome (dVar 1))))))))
def DrawOk (ds : List Int) : Prop := ∀ d ∈ ds, 0 ≤ d ∧ d < 65521
theorem DrawOk.snoc {ds : List Int} {d : Int} (h : DrawOk ds) (h0 : 0 ≤ d) (h1 : d < 65521) : DrawOk (ds ++ [d]) := fun x hx => by
  rcases List.mem_append.mp hx with hx | hx
  · exact h x hx
  · rw [List.mem_singleton.mp hx]; exact ⟨h0, h1⟩
theorem app_ok {ds : List Int} {d : Int} (h : ds.length < 100000) : appF (eI ds) [.int d] = .ok (eI (ds ++ [d])) := by
  show (if _ then _ else _) = _
  rw [if_pos (by rw [List.length_map, sizeLine_eq]; omega)]
  simp
theorem fmod_rng {a m : Int} (h : 0 < m) : 0 ≤ a.fmod m ∧ a.fmod m < m := ⟨Int.fmod_nonneg_of_pos _ h, Int.fmod_lt_of_pos _ h⟩
theorem pow18 : powD (.int 10) (.int 18) = .ok (.int 1000000000000000000) := by
  show (if (0 : Int) ≤ 18 ∧ (18 : Int) ≤ 1000000 ∧ (10 : Int).natAbs < 2 ^ 64 then Except.ok (PyData.int ((10 : Int) ^ (18 : Int).toNat)) else stuck) = _
  rw [if_pos (by decide)]
  rfl
theorem foldl_count {α : Type} : ∀ (xs : List α) (n : Nat), xs.foldl (fun s _ => s + 1) n = n + xs.length
  | [], _ => rfl
  | x :: xs, n => by rw [List.foldl_cons, foldl_count xs]; simp; omega
def drInner : DS := (sIf (tVal (dOp2 gtD (dVar 5) (dLit (.int 0)))) (sSeq (sUpd 2 (dCons (dOp2 modD (dCall intD (dCons (dVar 5) dNil)) (dLit (.int 1009))) dNil) appF)
    (sSet 5 (dOp2 fdivD (dVar 5) (dLit (.int 1009))))) sSkip)
def drCell : DS := (sSeq (sSet 5 (dCall absD (dCons (dVar 4) dNil)))
    (sSeq (sSet 3 (dOp2 modD (dCall intD (dCons (dOp2 addD (dOp2 addD (dOp2 mulD (dVar 3) (dLit (.int 48271))) (dVar 5)) (dLit (.int 11))) dNil)) (dLit (.int 2147483647))))
    (sIf (tVal (dOp2 geD (dVar 5) (dOp2 powD (dLit (.int 10)) (dLit (.int 18))))) (sFor (dCallL range1D (dCons (dLit (.int 60)) dNil)) (.nm 6) drInner) (sUpd 2 (dCons (dOp2 modD (dOp2 fdivD (dCall intD (dCons (dOp2 addD (dOp2 mulD (dVar 3) (dLit (.int 16807))) (dLit (.int 5))) dNil)) (dLit (.int 3))) (dLit (.int 65521))) dNil) appF))))
def drMore : DS := (sIf (tVal (dOp2 ltD (dCall lenD (dCons (dVarB 2) dNil)) (dVar 1))) (sSeq (sSet 3 (dOp2 modD (dCall intD (dCons (dOp2 addD (dOp2 addD (dOp2 mulD (dVar 3) (dLit (.int 69621))) (dVar 6)) (dLit (.int 1))) dNil)) (dLit (.int 2147483647))))
    (sUpd 2 (dCons (dOp2 modD (dOp2 fdivD (dCall intD (dCons (dVar 3) dNil)) (dLit (.int 7))) (dLit (.int 65521))) dNil) appF)) sSkip)
theorem drInner_ok {a b c d e : B} {ds : List Int} {n i : Int} (hd : DrawOk ds) (hl : ds.length < 100000) (h0 : 0 ≤ n) : ∃ ds' n', ((Tg.nm 6).d [a, b, .ol (eI ds), c, d, .dat (.int n), e] (.int i) >>= fun ρ1 => drInner ρ1) = .ok (.nx [a, b, .ol (eI ds'), c, d, .dat (.int n'), .dat (.int i)]) ∧ DrawOk ds' ∧ ds'.length ≤ ds.length + 1 ∧ 0 ≤ n' := by
  by_cases h : 0 < n
  · refine ⟨ds ++ [n.fmod 1009], n.fdiv 1009, ?_, hd.snoc (fmod_rng (by decide)).1 (by have := (fmod_rng (a := n) (m := 1009) (by decide)).2; omega), by simp, ?_⟩
    · simp [drInner, h, mod_i, fdiv_i, app_ok hl]
    · exact Int.fdiv_nonneg h0 (by decide)
  · exact ⟨ds, n, by simp [drInner, h], hd, by omega, h0⟩
theorem drCell_ok {a b c d e : B} {ds : List Int} {seed n : Int} (hd : DrawOk ds) (hl : ds.length < 99000) (h0 : 0 ≤ seed) (h1 : seed < 2147483647) : ∃ ds' seed' x4 x5 x6, ((Tg.nm 4).d [a, b, .ol (eI ds), .dat (.int seed), c, d, e] (.int n) >>= fun ρ1 => drCell ρ1) = .ok (.nx [a, b, .ol (eI ds'), .dat (.int seed'), x4, x5, x6]) ∧ DrawOk ds' ∧ ds'.length ≤ ds.length + 60 ∧ 0 ≤ seed' ∧ seed' < 2147483647 := by
  have habs : (0 : Int) ≤ if n < 0 then -n else n := by split <;> omega
  generalize hm : (if n < 0 then -n else n) = m at habs
  have hmul : mulD (.int seed) (.int 48271) = .ok (.int (seed * 48271)) := mul_small h0 (by omega) (by decide) (by decide)
  obtain ⟨s0, s1⟩ := fmod_rng (a := seed * 48271 + m + 11) (m := 2147483647) (by decide)
  generalize hs : (seed * 48271 + m + 11).fmod 2147483647 = s at s0 s1
  have hmul2 : mulD (.int s) (.int 16807) = .ok (.int (s * 16807)) := mul_small s0 (by omega) (by decide) (by decide)
  have hr : range1D [.int 60] = .ok ((List.range 60).map fun (i : Nat) => .int i) := range1_ok (n := 60) (by decide) (by decide)
  by_cases h : 1000000000000000000 ≤ m
  · obtain ⟨ρ', hf, ds', n', e', hρ, hd', hl', hn'⟩ := forD_ix (t := .nm 6) (b := drInner) (fun (i : Nat) => PyData.int i) (fun k ρ => ∃ ds' n' e', ρ = [a, b, .ol (eI ds'), .dat (.int s), .dat (.int n), .dat (.int n'), e'] ∧ DrawOk ds' ∧ ds'.length ≤ ds.length + k ∧ 0 ≤ n') (List.range 60)
      (ρ := [a, b, .ol (eI ds), .dat (.int s), .dat (.int n), .dat (.int m), e]) (by
        rintro k i ρ hk hlt ⟨ds', n', e', rfl, hd', hl', hn'⟩
        rw [List.length_range] at hlt
        obtain ⟨ds2, n2, q, hd2, hl2, hn2⟩ := drInner_ok (a := a) (b := b) (c := .dat (.int s)) (d := .dat (.int n)) (e := e') (n := n') (i := i) hd' (by omega) hn'
        exact ⟨_, .inl q, ds2, n2, _, rfl, hd2, by omega, hn2⟩) ⟨ds, m, e, rfl, hd, by omega, habs⟩
    subst hρ
    rw [List.length_range] at hl'
    refine ⟨ds', s, .dat (.int n), .dat (.int n'), e', ?_, hd', hl', s0, s1⟩
    simp [drCell, hm, hmul, mod_i, hs, pow18, h, hr, hf]
  · refine ⟨ds ++ [((s * 16807 + 5).fdiv 3).fmod 65521], s, .dat (.int n), .dat (.int m), e, ?_, hd.snoc (fmod_rng (by decide)).1 (fmod_rng (by decide)).2, by simp, s0, s1⟩
    simp [drCell, hm, hmul, hmul2, mod_i, hs, pow18, h, hr, fdiv_i, app_ok (show ds.length < 100000 by omega)]
theorem drMore_ok {a c d e : B} {ds : List Int} {many : Nat} {seed : Int} {i : Nat} (hm : many ≤ 1000) (hi : i ≤ 1000) (hd : DrawOk ds) (hl : ds.length < 99000) (h0 : 0 ≤ seed) (h1 : seed < 2147483647) : ∃ ds' seed', ((Tg.nm 6).d [a, .dat (.int many), .ol (eI ds), .dat (.int seed), c, d, e] (.int i) >>= fun ρ1 => drMore ρ1) = .ok (.nx [a, .dat (.int many), .ol (eI ds'), .dat (.int seed'), c, d, .dat (.int i)]) ∧ DrawOk ds' ∧ ds'.length ≤ ds.length + 1 ∧ (many ≤ ds.length → ds'.length = ds.length) ∧ (ds.length < many → ds'.length = ds.length + 1) ∧ 0 ≤ seed' ∧ seed' < 2147483647 := by
  have hmul : mulD (.int seed) (.int 69621) = .ok (.int (seed * 69621)) := mul_small h0 (by omega) (by decide) (by decide)
  obtain ⟨s0, s1⟩ := fmod_rng (a := seed * 69621 + i + 1) (m := 2147483647) (by decide)
  generalize hs : (seed * 69621 + i + 1).fmod 2147483647 = s at s0 s1
  by_cases h : ds.length < many
  · refine ⟨ds ++ [(s.fdiv 7).fmod 65521], s, ?_, hd.snoc (fmod_rng (by decide)).1 (fmod_rng (by decide)).2, by simp, by omega, by simp, s0, s1⟩
    simp [drMore, h, hmul, mod_i, hs, fdiv_i, app_ok (show ds.length < 100000 by omega)]
  · refine ⟨ds, seed, ?_, hd, by omega, by omega, by omega, h0, h1⟩
    simp [drMore, h]
theorem draws_ok (ns : List Int) (many : Nat) (hl : ns.length ≤ 63) (hm : many ≤ 1000) : ∃ ds : List Int, fnD [true, false] 7 bdDraws [lI ns, .int many] = .ok (lI ds) ∧ ds.length = many ∧ DrawOk ds := by
  obtain ⟨ρ1, h1, ds1, seed1, x4, x5, x6, e1, hd1, hl1, s0, s1⟩ := forD_ix (t := .nm 4) (b := drCell) PyData.int (fun k ρ => ∃ ds seed x4 x5 x6, ρ = [.fz (eI ns), .dat (.int many), .ol (eI ds), .dat (.int seed), x4, x5, x6] ∧ DrawOk ds ∧ ds.length ≤ 60 * k ∧ 0 ≤ seed ∧ seed < 2147483647) (ns.take 63)
    (ρ := [.fz (eI ns), .dat (.int many), .ol (eI []), .dat (.int 7), .un, .un, .un]) (by
      rintro k i ρ hk hlt ⟨ds, seed, x4, x5, x6, rfl, hd, hl2, s0, s1⟩
      rw [List.length_take] at hlt
      obtain ⟨ds2, seed2, y4, y5, y6, q, hd2, hl3, t0, t1⟩ := drCell_ok (a := .fz (eI ns)) (b := .dat (.int many)) (c := x4) (d := x5) (e := x6) (n := i) hd (by omega) s0 s1
      exact ⟨_, .inl q, ds2, seed2, y4, y5, y6, rfl, hd2, by omega, t0, t1⟩) ⟨[], 7, _, _, _, rfl, (fun _ h => by cases h), by simp, by decide, by decide⟩
  subst e1
  rw [List.length_take] at hl1
  obtain ⟨ρ2, h2, ds2, seed2, y6, e2, hd2, hl2, hk2, t0, t1⟩ := forD_ix (t := .nm 6) (b := drMore) (fun (i : Nat) => PyData.int i) (fun k ρ => ∃ ds seed x6, ρ = [.fz (eI ns), .dat (.int many), .ol (eI ds), .dat (.int seed), x4, x5, x6] ∧ DrawOk ds ∧ ds.length ≤ 3780 + k ∧ (k ≤ ds.length ∨ many ≤ ds.length) ∧ 0 ≤ seed ∧ seed < 2147483647) (List.range many)
    (ρ := [.fz (eI ns), .dat (.int many), .ol (eI ds1), .dat (.int seed1), x4, x5, x6]) (by
      rintro k i ρ hk hlt ⟨ds, seed, x6, rfl, hd, hl2, hk2, s0, s1⟩
      rw [List.length_range] at hlt
      have hi : i = k := by
        rw [List.getElem?_range hlt] at hk
        exact (Option.some.inj hk).symm
      subst hi
      obtain ⟨ds2, seed2, q, hd2, hl3, ha, hb, t0, t1⟩ := drMore_ok (a := .fz (eI ns)) (c := x4) (d := x5) (e := x6) (many := many) (i := i) hm (by omega) hd (by omega) s0 s1
      refine ⟨_, .inl q, ds2, seed2, _, rfl, hd2, by omega, ?_, t0, t1⟩
      by_cases hc : ds.length < many
      · have := hb hc; omega
      · have := ha (by omega); omega) ⟨ds1, seed1, x6, rfl, hd1, by omega, by omega, s0, s1⟩
  subst e2
  rw [List.length_range] at hk2
  refine ⟨ds2.take many, ?_, by rw [List.length_take]; omega, fun d hd => hd2 d (List.mem_of_mem_take hd)⟩
  have hr : range1D [.int (many : Int)] = .ok ((List.range many).map fun (i : Nat) => .int i) := by
    have := range1_ok (n := (many : Int)) (by omega) (by omega)
    simpa using this
  have hc : cutD (eI ns) none (some 63) = eI (ns.take 63) := by
    rw [cut_to _ (by decide)]
    simp [← List.map_take]
  have hb : bdDraws = sSeq (sOwn 2 (dList dNil)) (sSeq (sSet 3 (dLit (.int 7))) (sSeq (sFor (iD (dSl slD (dVarB 0) oNone (oSome (dLit (.int 63))))) (.nm 4) drCell) (sSeq (sFor (dCallL range1D (dCons (dVar 1) dNil)) (.nm 6) drMore) (sRet (dSl slD (dVarB 2) oNone (oSome (dVar 1))))))) := rfl
  have h1' : forD (.nm 4) drCell (eI (ns.take 63)) [.fz (eI ns), .dat (.int many), .ol [], .dat (.int 7), .un, .un, .un] = _ := h1
  have h2' : forD (.nm 6) drMore ((List.range many).map fun (i : Nat) => .int i) [.fz (eI ns), .dat (.int many), .ol (eI ds1), .dat (.int seed1), x4, x5, x6] = _ := h2
  have e1 : sOwn 2 (dList dNil) [.fz (eI ns), .dat (.int many), .un, .un, .un, .un, .un] = .ok (.nx [.fz (eI ns), .dat (.int many), .ol [], .un, .un, .un, .un]) := by simp
  have e2 : sSet 3 (dLit (.int 7)) [.fz (eI ns), .dat (.int many), .ol [], .un, .un, .un, .un] = .ok (.nx [.fz (eI ns), .dat (.int many), .ol [], .dat (.int 7), .un, .un, .un]) := by simp
  have e3 : sFor (iD (dSl slD (dVarB 0) oNone (oSome (dLit (.int 63))))) (.nm 4) drCell [.fz (eI ns), .dat (.int many), .ol [], .dat (.int 7), .un, .un, .un] = .ok (.nx [.fz (eI ns), .dat (.int many), .ol (eI ds1), .dat (.int seed1), x4, x5, x6]) := by
    rw [ev_for]
    have : iD (dSl slD (dVarB 0) oNone (oSome (dLit (.int 63)))) [.fz (eI ns), .dat (.int many), .ol [], .dat (.int 7), .un, .un, .un] = .ok (eI (ns.take 63)) := by
      simp only [ev_iD, ev_sl, ev_varB, ev_oN, ev_oS, ev_lit, List.getElem?_cons_zero, ok_b, sl_l, hc, it_l]
    rw [this, ev_lift_ok]
    exact h1'
  have e4 : sFor (dCallL range1D (dCons (dVar 1) dNil)) (.nm 6) drMore [.fz (eI ns), .dat (.int many), .ol (eI ds1), .dat (.int seed1), x4, x5, x6] = .ok (.nx [.fz (eI ns), .dat (.int many), .ol (eI ds2), .dat (.int seed2), x4, x5, y6]) := by
    rw [ev_for]
    have : dCallL range1D (dCons (dVar 1) dNil) [.fz (eI ns), .dat (.int many), .ol (eI ds1), .dat (.int seed1), x4, x5, x6] = .ok ((List.range many).map fun (i : Nat) => .int i) := by
      simp [hr]
    rw [this, ev_lift_ok]
    exact h2'
  have e5 : sRet (dSl slD (dVarB 2) oNone (oSome (dVar 1))) [.fz (eI ns), .dat (.int many), .ol (eI ds2), .dat (.int seed2), x4, x5, y6] = .ok (.rt (lI (ds2.take many))) := by
    simp [cut_to, ← List.map_take]
  show (if 2 = 2 then outD (bdDraws [.fz (eI ns), .dat (.int many), .un, .un, .un, .un, .un]) else stuck) = _
  rw [if_pos rfl, hb, ev_seq_nx e1, ev_seq_nx e2, ev_seq_nx e3, ev_seq_nx e4, e5]
  rfl
end Den

set_option Elab.async false
set_option linter.all false
set_option maxRecDepth 100000
set_option maxHeartbeats 4000000
namespace Den
open PySem PySem.Spec PyProof.Rows L2
/-! ### is_whole, ascends: shared by the laws -/
def isWhole (d : PyData) (lo hi : Int) : Bool := match d with
  | .int i => decide (lo ≤ i) && decide (i ≤ hi)
  | _ => false
def bdWhole : DS := (sRet (dAndV (dIsi "int" (dVar 0)) (dAndV (dNotV (dIsi "bool" (dVar 0))) (dChain leD leD (dVar 1) (dVar 0) (dVar 2)))))
theorem whole_eq (d : PyData) (lo hi : Int) : fnD [false, false, false] 3 bdWhole [d, .int lo, .int hi] = .ok (.bool (isWhole d lo hi)) := by
  show outD (bdWhole [.dat d, .dat (.int lo), .dat (.int hi)]) = _
  cases d <;> simp [bdWhole, isinstD, isWhole]
  rename_i i
  by_cases h : lo ≤ i <;> simp [h]
def asc : List Int → Bool
  | a :: b :: r => decide (a < b) && asc (b :: r)
  | _ => true
theorem asc_iff : ∀ ns : List Int, asc ns = true ↔ ns.Pairwise (· < ·)
  | [] => by simp [asc]
  | [a] => by simp [asc]
  | a :: b :: r => by
    rw [asc, Bool.and_eq_true, asc_iff (b :: r), decide_eq_true_eq, List.pairwise_cons (l := b :: r)]
    constructor
    · rintro ⟨h1, h2⟩
      refine ⟨fun x hx => ?_, h2⟩
      rcases List.mem_cons.mp hx with rfl | hx
      · exact h1
      · have := (List.pairwise_cons.mp h2).1 x hx
        omega
    · rintro ⟨h1, h2⟩
      exact ⟨h1 b (by simp), h2⟩
def bdAsc : DS := (sRet (dCall allD (dCons (dLst (dComp (dCallL zipD (dCons (dVar 0) (dCons (dSl slD (dVar 0) (oSome (dLit (.int 1))) oNone) dNil))) [1, 2] (.tp [(.nm 1), (.nm 2)]) tYesD (dOp2 ltD (dVar 1) (dVar 2)))) dNil)))
theorem zipP_ints (xs ys : List Int) : zipP (eI xs) (eI ys) = (xs.zip ys).map fun p => .tuple [.int p.1, .int p.2] := by
  unfold zipP
  rw [List.zip_map, List.map_map]
  rfl
theorem asc_zip : ∀ ns : List Int, ((ns.zip (ns.drop 1)).all fun p => decide (p.1 < p.2)) = asc ns
  | [] => rfl
  | [a] => rfl
  | a :: b :: r => by
    rw [asc, ← asc_zip (b :: r)]
    rfl
theorem asc_eq (ns : List Int) (h : ns.length ≤ 1000) : fnD [false] 3 bdAsc [tI ns] = .ok (.bool (asc ns)) := by
  have hc : dComp (dCallL zipD (dCons (dVar 0) (dCons (dSl slD (dVar 0) (oSome (dLit (.int 1))) oNone) dNil))) [1, 2] (.tp [(.nm 1), (.nm 2)]) tYesD (dOp2 ltD (dVar 1) (dVar 2)) [.dat (tI ns), .un, .un] = .ok ((ns.zip (ns.drop 1)).map fun p => .bool (decide (p.1 < p.2))) := by
    refine dComp_map (xs := ns.zip (ns.drop 1)) (fun p => .tuple [.int p.1, .int p.2]) _ ?_ (by decide) ?_ ?_
    · simp only [ev_callL, ev_cons, ev_var, ev_sl, ev_oS, ev_oN, ev_lit, ev_nil, List.getElem?_cons_zero, ok_b, sl_t, cut_from _ (show (0 : Int) ≤ 1 by decide)]
      show (.ok (zipP (eI ns) ((eI ns).drop 1)) : Rs (List PyData)) = _
      rw [← List.map_drop, zipP_ints]
    · rw [List.length_zip]; omega
    · intro p hp
      simp [bodyC, wipeD]
  show outD (bdAsc [.dat (tI ns), .un, .un]) = _
  simp only [bdAsc, ev_ret, ev_call, ev_cons, ev_lst, ev_nil, hc, ok_m, ok_b, all_map, asc_zip, ev_lift_ok, out_rt]
end Den

set_option Elab.async false
set_option linter.all false
set_option maxRecDepth 100000
set_option maxHeartbeats 4000000
namespace Nk52
open PySem PySem.Spec PyProof.Rows L2 Den
theorem cfW (d : PyData) (lo hi : Int) : cf_is_whole [d, .int lo, .int hi] = .ok (.bool (isWhole d lo hi)) := whole_eq d lo hi
theorem cfA (ns : List Int) (h : ns.length ≤ 1000) : cf_ascends [tI ns] = .ok (.bool (asc ns)) := asc_eq ns h
theorem cfD (ns : List Int) (h : ns.length ≤ 63) : ∃ ds : List Int, cf__law_draws [lI ns, .int 60] = .ok (lI ds) ∧ ds.length = 60 ∧ DrawOk ds := draws_ok ns 60 h (by decide)
def wholes (ds : List PyData) (lo hi : Int) : Bool := ds.all fun d => isWhole d lo hi
theorem wholes_ints : ∀ {ds : List PyData} {lo hi : Int}, wholes ds lo hi = true → ∃ ns, ds = eI ns ∧ ∀ n ∈ ns, lo ≤ n ∧ n ≤ hi
  | [], _, _, _ => ⟨[], rfl, fun _ h => by cases h⟩
  | d :: ds, lo, hi, h => by
    unfold wholes at h
    rw [List.all_cons, Bool.and_eq_true] at h
    obtain ⟨ns, e, k⟩ := wholes_ints (ds := ds) h.2
    cases d with
    | int i =>
      have h1 := h.1
      simp only [isWhole, Bool.and_eq_true, decide_eq_true_eq] at h1
      refine ⟨i :: ns, by rw [e]; rfl, fun n hn => ?_⟩
      rcases List.mem_cons.mp hn with rfl | hn
      · exact h1
      · exact k n hn
    | _ => exact absurd h.1 (by simp [isWhole])
theorem wholes_of {ns : List Int} {lo hi : Int} (h : ∀ n ∈ ns, lo ≤ n ∧ n ≤ hi) : wholes (eI ns) lo hi = true := by
  unfold wholes
  rw [List.all_map, List.all_eq_true]
  intro n hn
  simpa [isWhole] using h n hn
def vals (ds : List PyData) : List Int := (intsOf ds).getD []
@[simp] theorem vals_eI (ns : List Int) : vals (eI ns) = ns := by unfold vals; rw [intsOf_map]; rfl
def seatsOk : PyData → Bool
  | .tuple ds => decide (1 ≤ ds.length ∧ ds.length ≤ 8) && wholes ds (-20) 20 && asc (vals ds)
  | _ => false
def tlen : PyData → Nat
  | .tuple ds => ds.length
  | _ => 0
def loadsOk (n : Nat) : PyData → Bool
  | .tuple ds => decide (1 ≤ ds.length ∧ ds.length ≤ min 6 n) && wholes ds 1 100
  | _ => false
theorem min2_eq (a b : Nat) : min2 (a : Int) (b : Int) = ((min a b : Nat) : Int) := by
  unfold min2
  split <;> omega
/-- all([is_whole(one, lo, hi) for one in ds]) -/
theorem allW (ds : List PyData) (hl : ds.length ≤ 1000) {lo hi : DE} {l h : Int} {ρ : EnvD} {i j : Nat} (hj : dVar i ρ = .ok (.tuple ds)) (hlo : ∀ b, lo ((ρ.set j .un).set j b) = .ok (.int l)) (hhi : ∀ b, hi ((ρ.set j .un).set j b) = .ok (.int h)) (hj2 : j < ρ.length) :
    dCall allD (dCons (dLst (dComp (iD (dVar i)) [j] (.nm j) tYesD (dCall cf_is_whole (dCons (dVar j) (dCons lo (dCons hi dNil)))))) dNil) ρ = .ok (.bool (wholes ds l h)) := by
  have hc : dComp (iD (dVar i)) [j] (.nm j) tYesD (dCall cf_is_whole (dCons (dVar j) (dCons lo (dCons hi dNil)))) ρ = .ok (ds.map fun d => .bool (isWhole d l h)) := by
    refine dComp_map (xs := ds) (fun d => d) _ ?_ (by simp [Tg.within]) (by omega) fun d hd => ?_
    · rw [ev_iD, hj, ok_b, it_t, List.map_id']
    · have hv : dVar j ((ρ.set j .un).set j (.dat d)) = .ok d := by
        rw [ev_var, List.getElem?_set_self (by simpa using hj2)]
      show (Tg.d (.nm j) (ρ.set j .un) d >>= _) = _
      rw [ev_nm, ok_b]
      simp only [ev_yes, ok_b, if_true, ev_call, ev_cons, hv, hlo, hhi, ev_nil, cfW]
  simp only [ev_call, ev_cons, ev_lst, hc, ok_m, ok_b, ev_nil, all_map]
  rfl
theorem seats_tup {ds : List PyData} (h : seatsOk (.tuple ds) = true) : (1 ≤ ds.length ∧ ds.length ≤ 8) ∧ wholes ds (-20) 20 = true ∧ asc (vals ds) = true := by
  simp only [seatsOk, Bool.and_eq_true, decide_eq_true_eq] at h
  exact ⟨h.1.1, h.1.2, h.2⟩
theorem check_eq (ld sd : PyData) : cf__check [ld, sd] = if seatsOk sd = true then (if loadsOk (tlen sd) ld = true then .ok .none else .error (.exc "BadLoads" none)) else .error (.exc "BadSeats" none) := by
  show outD (bd__check [.dat ld, .dat sd, .un]) = _
  cases sd with
  | tuple ds =>
    by_cases h1 : 1 ≤ ds.length ∧ ds.length ≤ 8
    · have a1 : (1 : Int) ≤ ds.length := by omega
      have a2 : (ds.length : Int) ≤ 8 := by omega
      have hw := allW ds (by omega) (lo := dOp2 subD (dLit (.int 0)) (dLit (.int 20))) (hi := dLit (.int 20)) (l := -20) (h := 20) (ρ := [.dat ld, .dat (.tuple ds), .un]) (i := 1) (j := 2) (by simp) (by intro b; simp) (by intro b; simp) (by simp)
      have s1 : sIf (tOrD (tNotD (tVal (dIsi "tuple" (dVar 1)))) (tNotD (tVal (dChain leD leD (dLit (.int 1)) (dCall lenD (dCons (dVar 1) dNil)) (dLit (.int 8)))))) (sRaise "BadSeats") sSkip [.dat ld, .dat (.tuple ds), .un] = .ok (.nx [.dat ld, .dat (.tuple ds), .un]) := by
        simp [isinstD, a1, a2]
      by_cases h2 : wholes ds (-20) 20 = true
      · obtain ⟨ns, rfl, hn⟩ := wholes_ints h2
        have hl : ns.length ≤ 8 := by simpa using h1.2
        have ha : cf_ascends [.tuple (eI ns)] = _ := cfA ns (by omega)
        by_cases h3 : asc ns = true
        · have hs : seatsOk (.tuple (eI ns)) = true := by simp only [seatsOk, vals_eI, h2, h3, decide_eq_true h1, Bool.and_self]
          rw [if_pos hs]
          have s2 : sIf (tOrD (tNotD (tVal (dCall allD (dCons (dLst (dComp (iD (dVar 1)) [2] (.nm 2) tYesD (dCall cf_is_whole (dCons (dVar 2) (dCons (dOp2 subD (dLit (.int 0)) (dLit (.int 20))) (dCons (dLit (.int 20)) dNil)))))) dNil)))) (tNotD (tVal (dCall cf_ascends (dCons (dVar 1) dNil))))) (sRaise "BadSeats") sSkip [.dat ld, .dat (.tuple (eI ns)), .un] = .ok (.nx [.dat ld, .dat (.tuple (eI ns)), .un]) := by
            rw [ev_sIf, ev_or, ev_not, ev_val, hw]
            simp [h2, h3, ha]
          show outD (sSeq _ (sSeq _ (sSeq _ _)) _) = _
          rw [ev_seq_nx s1, ev_seq_nx s2]
          cases ld with
          | tuple es =>
            by_cases h4 : 1 ≤ es.length ∧ es.length ≤ min 6 ns.length
            · have b1 : (1 : Int) ≤ es.length := by omega
              have b2 : (es.length : Int) ≤ min2 6 ns.length := by
                have := min2_eq 6 ns.length
                rw [show ((6 : Nat) : Int) = 6 from rfl] at this
                rw [this]; omega
              have hw2 := allW es (by omega) (lo := dLit (.int 1)) (hi := dLit (.int 100)) (l := 1) (h := 100) (ρ := [.dat (.tuple es), .dat (tI ns), .un]) (i := 0) (j := 2) (by simp) (by intro b; simp) (by intro b; simp) (by simp)
              have s3 : sIf (tOrD (tNotD (tVal (dIsi "tuple" (dVar 0)))) (tNotD (tVal (dChain leD leD (dLit (.int 1)) (dCall lenD (dCons (dVar 0) dNil)) (dCall minD (dCons (dLit (.int 6)) (dCons (dCall lenD (dCons (dVar 1) dNil)) dNil))))))) (sRaise "BadLoads") sSkip [.dat (.tuple es), .dat (.tuple (eI ns)), .un] = .ok (.nx [.dat (.tuple es), .dat (.tuple (eI ns)), .un]) := by
                simp [isinstD, b1, b2]
              rw [ev_seq_nx s3, ev_sIf, ev_not, ev_val, hw2]
              by_cases h5 : wholes es 1 100 = true
              · have hL : loadsOk (tlen (.tuple (eI ns))) (.tuple es) = true := by simp only [loadsOk, tlen, List.length_map, h5, decide_eq_true h4, Bool.and_self]
                rw [if_pos hL]
                simp [h5]
              · have hL : ¬ loadsOk (tlen (.tuple (eI ns))) (.tuple es) = true := by simp [loadsOk, h5]
                rw [if_neg hL]
                simp [h5]
            · have hL : ¬ loadsOk (tlen (.tuple (eI ns))) (.tuple es) = true := by
                simp only [loadsOk, tlen, List.length_map, decide_eq_false h4, Bool.false_and, Bool.false_eq_true, not_false_iff]
              rw [if_neg hL]
              have b2 : ¬ ((1 : Int) ≤ es.length ∧ (es.length : Int) ≤ min2 6 ns.length) := by
                have := min2_eq 6 ns.length
                rw [show ((6 : Nat) : Int) = 6 from rfl] at this
                rw [this]; omega
              have s3 : sIf (tOrD (tNotD (tVal (dIsi "tuple" (dVar 0)))) (tNotD (tVal (dChain leD leD (dLit (.int 1)) (dCall lenD (dCons (dVar 0) dNil)) (dCall minD (dCons (dLit (.int 6)) (dCons (dCall lenD (dCons (dVar 1) dNil)) dNil))))))) (sRaise "BadLoads") sSkip [.dat (.tuple es), .dat (.tuple (eI ns)), .un] = .ok (.xc "BadLoads" none [.dat (.tuple es), .dat (.tuple (eI ns)), .un]) := by
                simp [isinstD]
                by_cases c1 : (1 : Int) ≤ es.length
                · have c2 : ¬ (es.length : Int) ≤ min2 6 ns.length := fun h => b2 ⟨c1, h⟩
                  simp [c1, c2]
                · simp [c1]
              rw [ev_seq_xc s3]
              rfl
          | _ => rw [if_neg (by simp [loadsOk])]; simp [isinstD]
        · have hs : ¬ seatsOk (.tuple (eI ns)) = true := by simp [seatsOk, h3]
          rw [if_neg hs]
          show outD (sSeq _ (sSeq _ (sSeq _ _)) _) = _
          rw [ev_seq_nx s1]
          have s2 : sIf (tOrD (tNotD (tVal (dCall allD (dCons (dLst (dComp (iD (dVar 1)) [2] (.nm 2) tYesD (dCall cf_is_whole (dCons (dVar 2) (dCons (dOp2 subD (dLit (.int 0)) (dLit (.int 20))) (dCons (dLit (.int 20)) dNil)))))) dNil)))) (tNotD (tVal (dCall cf_ascends (dCons (dVar 1) dNil))))) (sRaise "BadSeats") sSkip [.dat ld, .dat (.tuple (eI ns)), .un] = .ok (.xc "BadSeats" none [.dat ld, .dat (.tuple (eI ns)), .un]) := by
            rw [ev_sIf, ev_or, ev_not, ev_val, hw]
            simp [h2, h3, ha]
          rw [ev_seq_xc s2]
          rfl
      · have hs : ¬ seatsOk (.tuple ds) = true := fun h => h2 (seats_tup h).2.1
        rw [if_neg hs]
        show outD (sSeq _ (sSeq _ (sSeq _ _)) _) = _
        rw [ev_seq_nx s1]
        have s2 : sIf (tOrD (tNotD (tVal (dCall allD (dCons (dLst (dComp (iD (dVar 1)) [2] (.nm 2) tYesD (dCall cf_is_whole (dCons (dVar 2) (dCons (dOp2 subD (dLit (.int 0)) (dLit (.int 20))) (dCons (dLit (.int 20)) dNil)))))) dNil)))) (tNotD (tVal (dCall cf_ascends (dCons (dVar 1) dNil))))) (sRaise "BadSeats") sSkip [.dat ld, .dat (.tuple ds), .un] = .ok (.xc "BadSeats" none [.dat ld, .dat (.tuple ds), .un]) := by
          rw [ev_sIf, ev_or, ev_not, ev_val, hw]
          simp [h2]
        rw [ev_seq_xc s2]
        rfl
    · have hs : ¬ seatsOk (.tuple ds) = true := fun h => h1 (seats_tup h).1
      rw [if_neg hs]
      show outD (sSeq _ (sSeq _ (sSeq _ _)) _) = _
      have s1 : sIf (tOrD (tNotD (tVal (dIsi "tuple" (dVar 1)))) (tNotD (tVal (dChain leD leD (dLit (.int 1)) (dCall lenD (dCons (dVar 1) dNil)) (dLit (.int 8)))))) (sRaise "BadSeats") sSkip [.dat ld, .dat (.tuple ds), .un] = .ok (.xc "BadSeats" none [.dat ld, .dat (.tuple ds), .un]) := by
        simp [isinstD]
        by_cases c1 : (1 : Int) ≤ ds.length
        · have c2 : ¬ (ds.length : Int) ≤ 8 := fun h => h1 (by omega)
          simp [c1, c2]
        · simp [c1]
      rw [ev_seq_xc s1]
      rfl
  | _ => rw [if_neg (by simp [seatsOk])]; simp [bd__check, isinstD]
end Nk52

set_option Elab.async false
set_option linter.all false
set_option maxRecDepth 100000
set_option maxHeartbeats 4000000
namespace Den
open PySem PySem.Spec PyProof.Rows L2
/-! ### rows of ints -/
theorem canLay_ints : ∀ ns : List Int, PyData.canLayAll0 (eI ns) = true
  | [] => rfl
  | n :: ns => by
    show PyData.canLayAll0 (.int n :: eI ns) = true
    rw [PyData.canLayAll0, canLay_ints ns]
    rfl
@[simp] theorem sh_tI (ns : List Int) : SeqAt.shaped (tI ns) = true := by
  simp [SeqAt.shaped, PyData.canLay0, PyData.depth, canLay_ints, PySem.W.depth_ints]
@[simp] theorem sh_lI (ns : List Int) : SeqAt.shaped (lI ns) = true := by
  simp [SeqAt.shaped, PyData.canLay0, PyData.depth, canLay_ints, PySem.W.depth_ints]
theorem eqv_ii (i j : Int) : PyData.eqv (.int i) (.int j) = decide (i = j) := by
  simp [PyData.eqv]
  exact Bool.beq_eq_decide_eq i j
theorem any_int (ns : List Int) (i : Int) : ((eI ns).any fun z => PyData.eqv z (.int i)) = ns.contains i := by
  rw [List.any_map]
  rw [List.contains_eq_any_beq]
  congr 1
  funext n
  simp only [Function.comp_apply, eqv_ii]
  rw [Bool.beq_eq_decide_eq]
  exact decide_eq_decide.mpr eq_comm
@[simp] theorem in_ti (ns : List Int) (i : Int) : inD (.int i) (.tuple (eI ns)) = .ok (.bool (ns.contains i)) := by
  unfold inD
  have := sh_tI ns
  simp only [sh_i, this, Bool.and_self, if_true, any_int]
@[simp] theorem nin_ti (ns : List Int) (i : Int) : notInD (.int i) (.tuple (eI ns)) = .ok (.bool (!ns.contains i)) := by
  unfold notInD
  rw [in_ti]
  rfl
theorem add_tt {xs ys : List PyData} (h : xs.length + ys.length ≤ 1000000) : addD (.tuple xs) (.tuple ys) = .ok (.tuple (xs ++ ys)) := by
  show (if okLen (xs.length + ys.length) = true then _ else _) = _
  rw [if_pos (okLen_of h)]
theorem add_ll {xs ys : List PyData} (h : xs.length + ys.length ≤ 1000000) : addD (.list xs) (.list ys) = .ok (.list (xs ++ ys)) := by
  show (if okLen (xs.length + ys.length) = true then _ else _) = _
  rw [if_pos (okLen_of h)]
theorem mul_abs {i j : Int} (hi : i.natAbs < 2 ^ 100) (hj : j.natAbs < 2 ^ 100) : mulD (.int i) (.int j) = .ok (.int (i * j)) := by
  refine mul_i ?_
  have a : i.natAbs.log2 ≤ 100 := by
    rcases Nat.eq_zero_or_pos i.natAbs with e | e
    · rw [e]; decide
    · have := (Nat.log2_lt (n := i.natAbs) (k := 100) (by omega)).mpr hi; omega
  have b : j.natAbs.log2 ≤ 100 := by
    rcases Nat.eq_zero_or_pos j.natAbs with e | e
    · rw [e]; decide
    · have := (Nat.log2_lt (n := j.natAbs) (k := 100) (by omega)).mpr hj; omega
  omega
theorem ev_for_eq {it : DL} {t : Tg} {b : DS} {ρ : EnvD} {ds : List PyData} {r : Rs Out} (hi : it ρ = .ok ds) (h : forD t b ds ρ = r) : sFor it t b ρ = r := by rw [ev_for, hi, ev_lift_ok, h]
/-! ### two fors -/
theorem comp2L_eq {α β : Type} {t t1 : Tg} {tt tt1 : DT} {it1 : DL} {vs1 : List Nat} {e : DE} {ρ : EnvD} (enc : α → PyData) (enc1 : β → PyData) (ys : α → List β) (f : α → β → Option PyData) : ∀ xs : List α, (∀ x ∈ xs, ∃ ρ1, t.d ρ (enc x) = .ok ρ1 ∧ tt ρ1 = .ok true ∧ it1 ρ1 = .ok ((ys x).map enc1) ∧ ∀ y ∈ ys x, bodyC t1 tt1 e (wipeD ρ1 vs1) (enc1 y) = .ok (f x y)) →
    comp2L t tt it1 vs1 t1 tt1 e ρ (xs.map enc) = .ok (xs.flatMap fun x => (ys x).filterMap (f x))
  | [], _ => rfl
  | x :: xs, h => by
    obtain ⟨ρ1, h1, h2, h3, h4⟩ := h x List.mem_cons_self
    rw [List.map_cons, comp2L, h1, ok_b, h2, ok_b, if_pos rfl, h3, ok_b, compL_eq enc1 (f x) _ h4, ok_b, comp2L_eq enc enc1 ys f xs fun y hy => h y (List.mem_cons_of_mem _ hy), ok_b, List.flatMap_cons]
theorem dComp2_eq {α β : Type} {it it1 : DL} {vs vs1 : List Nat} {t t1 : Tg} {tt tt1 : DT} {e : DE} {ρ : EnvD} {xs : List α} (enc : α → PyData) (enc1 : β → PyData) (ys : α → List β) (f : α → β → Option PyData) (hi : it ρ = .ok (xs.map enc)) (hw : (t.within vs && t1.within vs1) = true)
    (hl : (xs.flatMap fun x => (ys x).filterMap (f x)).length ≤ 1000000)
    (h : ∀ x ∈ xs, ∃ ρ1, t.d (wipeD ρ vs) (enc x) = .ok ρ1 ∧ tt ρ1 = .ok true ∧ it1 ρ1 = .ok ((ys x).map enc1) ∧ ∀ y ∈ ys x, bodyC t1 tt1 e (wipeD ρ1 vs1) (enc1 y) = .ok (f x y)) :
    dComp2 it vs t tt it1 vs1 t1 tt1 e ρ = .ok (xs.flatMap fun x => (ys x).filterMap (f x)) := by
  unfold dComp2
  rw [hi, ok_b, if_pos hw, comp2L_eq enc enc1 ys f xs h]
  show (if okLen (xs.flatMap fun x => (ys x).filterMap (f x)).length = true then _ else _) = _
  rw [if_pos (okLen_of hl)]
/-! ### the least by its first item -/
theorem fold_min_key {α : Type} (lt : α → α → Bool) (k : α → Int) (h1 : ∀ a b, k a < k b → lt a b = true) (h2 : ∀ a b, lt a b = true → k a ≤ k b) : ∀ (xs : List α) (x : α), (∀ y ∈ x :: xs, k (xs.foldl (fun a y => if lt y a then y else a) x) ≤ k y)
  | [], x, y, hy => by
    rcases List.mem_cons.mp hy with rfl | hy
    · exact Int.le_refl _
    · cases hy
  | z :: zs, x, y, hy => by
    rw [List.foldl_cons]
    have ih := fold_min_key lt k h1 h2 zs (if lt z x then z else x)
    have i0 := ih _ List.mem_cons_self
    by_cases hz : lt z x = true
    · rw [if_pos hz] at ih i0 ⊢
      rcases List.mem_cons.mp hy with rfl | hy
      · exact Int.le_trans i0 (h2 _ _ hz)
      · exact ih y hy
    · rw [if_neg hz] at ih i0 ⊢
      rcases List.mem_cons.mp hy with rfl | hy
      · exact i0
      · rcases List.mem_cons.mp hy with rfl | hy
        · have : ¬ k y < k x := fun h => hz (h1 _ _ h)
          omega
        · exact ih y (List.mem_cons_of_mem _ hy)
/-- the fold over the items of a typed row -/
theorem minD_map {α : Type} (enc : α → PyData) (lt : α → α → Bool) (h : ∀ a b, PySem.W.dataLt (enc a) (enc b) = lt a b) : ∀ (xs : List α) (x : α), PySem.W.minD (enc x) (xs.map enc) = enc (xs.foldl (fun a y => if lt y a then y else a) x)
  | [], x => rfl
  | y :: ys, x => by
    have ih := minD_map enc lt h ys (if lt y x then y else x)
    rw [List.foldl_cons, ← ih, List.map_cons]
    show PySem.W.minD (if PySem.W.dataLt (enc y) (enc x) then enc y else enc x) _ = _
    rw [h]
    congr 1
    split <;> rfl
theorem tup_lt_first {a b : Int} {xs ys : List PyData} (h : a ≠ b) : PySem.W.dataLt (.tuple (.int a :: xs)) (.tuple (.int b :: ys)) = decide (a < b) := by
  rw [PySem.W.dataLt_tuple, PySem.W.dataLt_cons (by rfl), eqv_ii, if_neg (by simpa using h), PySem.W.dataLt_int]
end Den

set_option Elab.async false
set_option linter.all false
set_option maxRecDepth 100000
set_option maxHeartbeats 4000000
namespace Nk52
open PySem PySem.Spec PyProof.Rows L2 Den
/-! ### tilts -/
def tiltOf (ls ss : List Int) : Int := ((ls.zip ss).map fun p => p.1 * p.2).sum
def Small (ns : List Int) : Prop := ∀ n ∈ ns, n.natAbs < 2 ^ 100
theorem tilt_eq (ls ss : List Int) (h1 : Small ls) (h2 : Small ss) (hl : ls.length ≤ 1000) : cf__tilt [tI ls, tI ss] = .ok (.int (tiltOf ls ss)) := by
  have hc : dComp (dCallL zipD (dCons (dVar 0) (dCons (dVar 1) dNil))) [2, 3] (.tp [(.nm 2), (.nm 3)]) tYesD (dOp2 mulD (dVar 2) (dVar 3)) [.dat (tI ls), .dat (tI ss), .un, .un] = .ok ((ls.zip ss).map fun p => .int (p.1 * p.2)) := by
    refine dComp_map (xs := ls.zip ss) (fun p => .tuple [.int p.1, .int p.2]) _ ?_ (by decide) ?_ ?_
    · simp only [ev_callL, ev_cons, ev_var, ev_nil, List.getElem?_cons_zero, List.getElem?_cons_succ, ok_b]
      show (.ok (zipP (eI ls) (eI ss)) : Rs (List PyData)) = _
      rw [zipP_ints]
    · rw [List.length_zip]; omega
    · intro p hp
      have hp' := List.of_mem_zip (a := p.1) (b := p.2) hp
      have hm := mul_abs (h1 _ hp'.1) (h2 _ hp'.2)
      simp [bodyC, wipeD, hm]
  show outD (bd__tilt [.dat (tI ls), .dat (tI ss), .un, .un]) = _
  have : ((ls.zip ss).map fun p => PyData.int (p.1 * p.2)) = ((ls.zip ss).map fun p => p.1 * p.2).map .int := by rw [List.map_map]; rfl
  simp only [bd__tilt, ev_ret, ev_call, ev_cons, ev_lst, ev_nil, hc, ok_m, ok_b, this, sum_map, ev_lift_ok, out_rt]
  rfl
theorem range_zip (ls ss : List Int) (h : ls.length ≤ ss.length) : ((List.range ls.length).map fun k => ls.getD k 0 * ss.getD k 0) = (ls.zip ss).map fun p => p.1 * p.2 := by
  apply List.ext_getElem
  · simp; omega
  · intro i h1 h2
    simp at h1
    simp [List.getElem?_eq_getElem, h1, show i < ss.length by omega]
theorem lsum_eq (ls ss : List Int) (h1 : Small ls) (h2 : Small ss) (hl : ls.length ≤ 1000) (hs : ls.length ≤ ss.length) : cf__law_sum [tI ls, tI ss] = .ok (.int (tiltOf ls ss)) := by
  have hr : range1D [.int (ls.length : Int)] = .ok ((List.range ls.length).map fun (i : Nat) => .int i) := by
    have := range1_ok (n := (ls.length : Int)) (by omega) (by omega)
    simpa using this
  have hc : dComp (dCallL range1D (dCons (dCall lenD (dCons (dVar 0) dNil)) dNil)) [2] (.nm 2) tYesD (dOp2 mulD (dOp2 ixD (dVar 0) (dVar 2)) (dOp2 ixD (dVar 1) (dVar 2))) [.dat (tI ls), .dat (tI ss), .un] = .ok ((List.range ls.length).map fun (k : Nat) => .int (ls.getD k 0 * ss.getD k 0)) := by
    refine dComp_map (xs := List.range ls.length) (fun (i : Nat) => .int i) _ ?_ (by decide) (by simp; omega) ?_
    · simp [hr]
    · intro k hk
      have hk := List.mem_range.mp hk
      have hk2 : k < ss.length := by omega
      have i1 : ixD (tI ls) (.int k) = .ok (.int ls[k]) := by
        show (match atI (eI ls) (k : Int) with | some x => (.ok x : Rs PyData) | none => stuck) = _
        rw [atI_nat (v := .int ls[k]) (by simp [hk])]
      have i2 : ixD (tI ss) (.int k) = .ok (.int ss[k]) := by
        show (match atI (eI ss) (k : Int) with | some x => (.ok x : Rs PyData) | none => stuck) = _
        rw [atI_nat (v := .int ss[k]) (by simp [hk2])]
      have hm := mul_abs (h1 ls[k] (by simp)) (h2 ss[k] (by simp))
      simp [bodyC, wipeD, i1, i2, hm, hk, hk2]
  show outD (bd__law_sum [.dat (tI ls), .dat (tI ss), .un]) = _
  have : ((List.range ls.length).map fun (k : Nat) => PyData.int (ls.getD k 0 * ss.getD k 0)) = ((ls.zip ss).map fun p => p.1 * p.2).map .int := by rw [← range_zip ls ss hs, List.map_map]; rfl
  simp only [bd__law_sum, ev_ret, ev_call, ev_cons, ev_lst, ev_nil, hc, ok_m, ok_b, this, sum_map, ev_lift_ok, out_rt]
  rfl
/-! ### all ways -/
def ext1 (ss row : List Int) : List (List Int) := (ss.filter fun s => !row.contains s).map fun s => row ++ [s]
def ways (ss : List Int) : Nat → List (List Int)
  | 0 => [[]]
  | n + 1 => (ways ss n).flatMap (ext1 ss)
theorem ext1_len (ss row : List Int) : (ext1 ss row).length ≤ ss.length := by
  unfold ext1
  rw [List.length_map]
  exact List.length_filter_le _ _
theorem flat_len {α β : Type} (f : α → List β) (c : Nat) : ∀ xs : List α, (∀ x, (f x).length ≤ c) → (xs.flatMap f).length ≤ xs.length * c
  | [], _ => by simp
  | x :: xs, h => by
    rw [List.flatMap_cons, List.length_append, List.length_cons, Nat.succ_mul]
    have := flat_len f c xs h
    have := h x
    omega
theorem ways_len (ss : List Int) (hs : ss.length ≤ 8) : ∀ n, n ≤ 6 → (ways ss n).length ≤ 8 ^ n
  | 0, _ => by simp [ways]
  | n + 1, h => by
    have ih := ways_len ss hs n (by omega)
    have := flat_len (ext1 ss) ss.length (ways ss n) (ext1_len ss)
    show ((ways ss n).flatMap (ext1 ss)).length ≤ _
    calc _ ≤ (ways ss n).length * ss.length := this
      _ ≤ 8 ^ n * 8 := Nat.mul_le_mul ih hs
      _ = 8 ^ (n + 1) := by rw [Nat.pow_succ]
theorem ways_bound (ss : List Int) (hs : ss.length ≤ 8) {n : Nat} (h : n ≤ 6) : (ways ss n).length ≤ 262144 := by
  refine Nat.le_trans (ways_len ss hs n h) ?_
  have : 8 ^ n ≤ 8 ^ 6 := Nat.pow_le_pow_right (by decide) h
  simpa using this
theorem mem_ways (ss : List Int) : ∀ (n : Nat) (row : List Int), row ∈ ways ss n ↔ row.length = n ∧ row.Nodup ∧ ∀ x ∈ row, x ∈ ss
  | 0, row => by
    simp only [ways, List.mem_singleton]
    constructor
    · rintro rfl; simp
    · rintro ⟨h, _⟩; exact List.eq_nil_of_length_eq_zero h
  | n + 1, row => by
    show row ∈ (ways ss n).flatMap (ext1 ss) ↔ _
    rw [List.mem_flatMap]
    constructor
    · rintro ⟨r, hr, h⟩
      obtain ⟨h1, h2, h3⟩ := (mem_ways ss n r).mp hr
      obtain ⟨s, hs, rfl⟩ := List.mem_map.mp h
      rw [List.mem_filter] at hs
      have hns : s ∉ r := by simpa using hs.2
      refine ⟨by simp [h1], ?_, ?_⟩
      · rw [List.nodup_append]
        refine ⟨h2, by simp, fun a ha b hb => ?_⟩
        rw [List.mem_singleton] at hb
        subst hb
        exact fun e => hns (e ▸ ha)
      · intro x hx
        rcases List.mem_append.mp hx with hx | hx
        · exact h3 x hx
        · rw [List.mem_singleton.mp hx]; exact hs.1
    · rintro ⟨h1, h2, h3⟩
      obtain ⟨r, s, rfl⟩ : ∃ r s, row = r ++ [s] := by
        have hne : row ≠ [] := by intro e; rw [e] at h1; cases h1
        exact ⟨row.dropLast, row.getLast hne, (List.dropLast_concat_getLast hne).symm⟩
      rw [List.nodup_append] at h2
      refine ⟨r, (mem_ways ss n r).mpr ⟨by simpa using h1, h2.1, fun x hx => h3 x (by simp [hx])⟩, ?_⟩
      refine List.mem_map.mpr ⟨s, List.mem_filter.mpr ⟨h3 s (by simp), ?_⟩, rfl⟩
      have : s ∉ r := fun hs => h2.2.2 s hs s (by simp) rfl
      simpa using this
theorem ways_nodup (ss : List Int) (hs : ss.Nodup) : ∀ n, (ways ss n).Nodup
  | 0 => by simp [ways]
  | n + 1 => by
    show ((ways ss n).flatMap (ext1 ss)).Pairwise (· ≠ ·)
    have ih : (ways ss n).Pairwise (· ≠ ·) := ways_nodup ss hs n
    rw [List.pairwise_flatMap]
    refine ⟨fun r _ => ?_, ih.imp fun {a b} hab x hx y hy e => ?_⟩
    · unfold ext1
      rw [List.pairwise_map]
      exact (List.Pairwise.filter _ hs).imp fun {a b} hab e => hab (by simpa using e)
    · unfold ext1 at hx hy
      obtain ⟨s, _, rfl⟩ := List.mem_map.mp hx
      obtain ⟨s', _, rfl⟩ := List.mem_map.mp hy
      exact hab (List.append_inj_left' e rfl)
end Nk52

set_option Elab.async false
set_option linter.all false
set_option maxRecDepth 100000
set_option maxHeartbeats 4000000
namespace Nk52
open PySem PySem.Spec PyProof.Rows L2 Den
abbrev eR (rows : List (List Int)) : List PyData := rows.map tI
theorem take_succ {α : Type} {xs : List α} {k : Nat} {x : α} (h : xs[k]? = some x) : xs.take (k + 1) = xs.take k ++ [x] := by
  rw [List.take_add_one, h]; rfl
theorem ways_rows {ss : List Int} {n : Nat} {r : List Int} (h : r ∈ ways ss n) : r.length = n := ((mem_ways ss n r).mp h).1
theorem filt_map (ss r : List Int) : (ss.filterMap fun s => if r.contains s then none else some (tI (r ++ [s]))) = eR (ext1 ss r) := by
  unfold ext1
  induction ss with
  | nil => rfl
  | cons s ss ih =>
    rw [List.filterMap_cons, List.filter_cons]
    cases h : r.contains s with
    | true => simpa using ih
    | false =>
      simp only [Bool.not_false, if_true, List.map_cons, Bool.false_eq_true, if_false]
      rw [ih]
theorem stow_step (ss rs : List Int) {a b c d e : B} (hs : ss.length ≤ 8) {n : Nat} (hn : n + 1 ≤ 6) :
    dComp2 (iD (dVar 2)) [4, 5] (.nm 4) tYesD (iD (dVar 1)) [5] (.nm 5) (tVal (dOp2 notInD (dVar 5) (dVar 4))) (dOp2 addD (dVar 4) (dTup (dCons (dVar 5) dNil))) [a, .dat (tI ss), .dat (.list (eR (ways ss n))), b, c, d] = .ok (eR (ways ss (n + 1))) := by
  rw [dComp2_eq (xs := ways ss n) tI PyData.int (fun _ => ss) (fun r s => if r.contains s then none else some (tI (r ++ [s])))]
  · congr 1
    rw [show eR (ways ss (n + 1)) = List.map tI ((ways ss n).flatMap (ext1 ss)) from rfl, List.map_flatMap]
    congr 1
    funext r
    exact filt_map ss r
  · simp
  · rfl
  · have e1 : ((ways ss n).flatMap fun x => ss.filterMap fun s => if x.contains s then none else some (tI (x ++ [s]))) = eR (ways ss (n + 1)) := by
      rw [show eR (ways ss (n + 1)) = List.map tI ((ways ss n).flatMap (ext1 ss)) from rfl, List.map_flatMap]
      congr 1
      funext r
      exact filt_map ss r
    rw [e1, List.length_map]
    have := ways_bound ss hs hn
    omega
  · intro r hr
    refine ⟨_, ev_nm 4 (tI r), rfl, by simp [wipeD], fun s hs' => ?_⟩
    have hl := ways_rows hr
    by_cases hc : s ∈ r
    · simp [bodyC, wipeD, hc]
    · simp [bodyC, wipeD, hc, add_tt (show (eI r).length + [PyData.int s].length ≤ 1000000 by simp; omega)]
theorem stow_eq (ls ss : List Int) (hl : ls.length ≤ 6) (hs : ss.length ≤ 8) : cf__stowings [tI ls, tI ss] = .ok (.list (eR (ways ss ls.length))) := by
  obtain ⟨ρ', h1, h2⟩ := forD_ix (t := .nm 3) (b := sSet 2 (dLst (dComp2 (iD (dVar 2)) [4, 5] (.nm 4) tYesD (iD (dVar 1)) [5] (.nm 5) (tVal (dOp2 notInD (dVar 5) (dVar 4))) (dOp2 addD (dVar 4) (dTup (dCons (dVar 5) dNil))))))
    PyData.int (fun k ρ => ∃ b, ρ = [.dat (tI ls), .dat (tI ss), .dat (.list (eR (ways ss k))), b, .un, .un]) ls (ρ := [.dat (tI ls), .dat (tI ss), .dat (.list (eR (ways ss 0))), .un, .un, .un]) (by
      rintro k i ρ hk hlt ⟨b, rfl⟩
      refine ⟨[.dat (tI ls), .dat (tI ss), .dat (.list (eR (ways ss (k + 1)))), .dat (.int i), .un, .un], .inl ?_, ⟨_, rfl⟩⟩
      rw [ev_nm, ok_b]
      show sSet 2 _ [.dat (tI ls), .dat (tI ss), .dat (.list (eR (ways ss k))), .dat (.int i), .un, .un] = _
      rw [ev_set, ev_lst, stow_step ss [] (e := .un) hs (by omega), ok_m, ev_lift_ok]
      rfl) ⟨_, rfl⟩
  obtain ⟨b, rfl⟩ := h2
  show outD (bd__stowings [.dat (tI ls), .dat (tI ss), .un, .un, .un, .un]) = _
  have e1 : sSet 2 (dLst (dList (dCons (dTup dNil) dNil))) [.dat (tI ls), .dat (tI ss), .un, .un, .un, .un] = .ok (.nx [.dat (tI ls), .dat (tI ss), .dat (.list (eR (ways ss 0))), .un, .un, .un]) := by simp [ways]
  show outD (sSeq _ (sSeq _ _) _) = _
  rw [ev_seq_nx e1]
  rw [ev_seq_nx (ev_for_eq (by simp) h1)]
  simp
/-! the law's own list of all ways -/
theorem every_inner (ss : List Int) {n : Nat} {a b : B} {e0 e1 : B} (hs : ss.length ≤ 8) (hn : n + 1 ≤ 6) : ∃ f0 f1, forD (.nm 5) (sSet 4 (dOp2 addD (dVar 4) (dLst (dComp (iD (dVar 1)) [6] (.nm 6) (tVal (dOp2 notInD (dVar 6) (dVar 5))) (dOp2 addD (dVar 5) (dTup (dCons (dVar 6) dNil))))))) (eR (ways ss n)) [a, .dat (tI ss), b, e0, .dat (.list []), e1, .un] = .ok (.nx [a, .dat (tI ss), b, f0, .dat (.list (eR (ways ss (n + 1)))), f1, .un]) := by
  obtain ⟨ρ', h1, f1, rfl⟩ := forD_ix (t := .nm 5) (b := sSet 4 (dOp2 addD (dVar 4) (dLst (dComp (iD (dVar 1)) [6] (.nm 6) (tVal (dOp2 notInD (dVar 6) (dVar 5))) (dOp2 addD (dVar 5) (dTup (dCons (dVar 6) dNil)))))))
    tI (fun k ρ => ∃ f1, ρ = [a, .dat (tI ss), b, e0, .dat (.list (eR (((ways ss n).take k).flatMap (ext1 ss)))), f1, .un]) (ways ss n) (ρ := [a, .dat (tI ss), b, e0, .dat (.list []), e1, .un]) (by
      rintro k r ρ hk hlt ⟨f1, rfl⟩
      refine ⟨[a, .dat (tI ss), b, e0, .dat (.list (eR (((ways ss n).take (k + 1)).flatMap (ext1 ss)))), .dat (tI r), .un], .inl ?_, ⟨_, rfl⟩⟩
      rw [ev_nm, ok_b]
      have hr : r ∈ ways ss n := List.mem_of_getElem? hk
      have hl := ways_rows hr
      have hc : dComp (iD (dVar 1)) [6] (.nm 6) (tVal (dOp2 notInD (dVar 6) (dVar 5))) (dOp2 addD (dVar 5) (dTup (dCons (dVar 6) dNil))) [a, .dat (tI ss), b, e0, .dat (.list (eR (((ways ss n).take k).flatMap (ext1 ss)))), .dat (tI r), .un] = .ok (eR (ext1 ss r)) := by
        rw [dComp_eq (xs := ss) PyData.int (fun s => if r.contains s then none else some (tI (r ++ [s]))) (by simp) (by decide) (by omega), filt_map]
        intro s hs'
        by_cases hc : s ∈ r
        · simp [bodyC, wipeD, hc]
        · simp [bodyC, wipeD, hc, add_tt (show (eI r).length + [PyData.int s].length ≤ 1000000 by simp; omega)]
      show sSet 4 _ [a, .dat (tI ss), b, e0, .dat (.list (eR (((ways ss n).take k).flatMap (ext1 ss)))), .dat (tI r), .un] = _
      have h3 : ((ways ss n).take k).length ≤ 32768 := by
        have h4 : (ways ss n).length ≤ 8 ^ n := ways_len ss hs n (by omega)
        have h5 : 8 ^ n ≤ 8 ^ 5 := Nat.pow_le_pow_right (by decide) (by omega)
        rw [List.length_take]
        have : (8 : Nat) ^ 5 = 32768 := by decide
        omega
      have h6 := flat_len (ext1 ss) 8 ((ways ss n).take k) fun x => Nat.le_trans (ext1_len ss x) hs
      have h7 := ext1_len ss r
      have ha : addD (.list (eR (((ways ss n).take k).flatMap (ext1 ss)))) (.list (eR (ext1 ss r))) = .ok (.list (eR (((ways ss n).take (k + 1)).flatMap (ext1 ss)))) := by
        rw [add_ll (by rw [List.length_map, List.length_map]; omega), take_succ hk, List.flatMap_append]
        simp [eR]
      rw [ev_set, ev_op2, ev_lst, hc]
      simp only [ev_var, List.getElem?_cons_zero, List.getElem?_cons_succ, ok_b, ok_m, ha, ev_lift_ok]
      rfl) ⟨_, rfl⟩
  rw [List.take_length] at h1
  exact ⟨e0, f1, h1⟩
theorem every_eq (ls ss : List Int) (hl : ls.length ≤ 6) (hs : ss.length ≤ 8) : cf__law_every [tI ls, tI ss] = .ok (.list (eR (ways ss ls.length))) := by
  obtain ⟨ρ', h1, b, c, d, rfl⟩ := forD_ix (t := .nm 3) (b := sSeq (sSet 4 (dLst (dList dNil))) (sSeq (sFor (iD (dVar 2)) (.nm 5) (sSet 4 (dOp2 addD (dVar 4) (dLst (dComp (iD (dVar 1)) [6] (.nm 6) (tVal (dOp2 notInD (dVar 6) (dVar 5))) (dOp2 addD (dVar 5) (dTup (dCons (dVar 6) dNil)))))))) (sSet 2 (dVar 4))))
    PyData.int (fun k ρ => ∃ b c d, ρ = [.dat (tI ls), .dat (tI ss), .dat (.list (eR (ways ss k))), b, c, d, .un]) ls (ρ := [.dat (tI ls), .dat (tI ss), .dat (.list (eR (ways ss 0))), .un, .un, .un, .un]) (by
      rintro k i ρ hk hlt ⟨b, c, d, rfl⟩
      obtain ⟨f0, f1, h⟩ := every_inner ss (n := k) (a := .dat (tI ls)) (b := .dat (.list (eR (ways ss k)))) (e0 := .dat (.int i)) (e1 := d) hs (by omega)
      refine ⟨[.dat (tI ls), .dat (tI ss), .dat (.list (eR (ways ss (k + 1)))), f0, .dat (.list (eR (ways ss (k + 1)))), f1, .un], .inl ?_, ⟨_, _, _, rfl⟩⟩
      rw [ev_nm, ok_b]
      have e1 : sSet 4 (dLst (dList dNil)) [.dat (tI ls), .dat (tI ss), .dat (.list (eR (ways ss k))), .dat (.int i), c, d, .un] = .ok (.nx [.dat (tI ls), .dat (tI ss), .dat (.list (eR (ways ss k))), .dat (.int i), .dat (.list []), d, .un]) := by simp
      show sSeq _ (sSeq _ _) [.dat (tI ls), .dat (tI ss), .dat (.list (eR (ways ss k))), .dat (.int i), c, d, .un] = _
      rw [ev_seq_nx e1, ev_seq_nx (ev_for_eq (by simp) h)]
      simp) ⟨_, _, _, rfl⟩
  show outD (bd__law_every [.dat (tI ls), .dat (tI ss), .un, .un, .un, .un, .un]) = _
  have e1 : sSet 2 (dLst (dList (dCons (dTup dNil) dNil))) [.dat (tI ls), .dat (tI ss), .un, .un, .un, .un, .un] = .ok (.nx [.dat (tI ls), .dat (tI ss), .dat (.list (eR (ways ss 0))), .un, .un, .un, .un]) := by simp [ways]
  show outD (sSeq _ (sSeq _ _) _) = _
  rw [ev_seq_nx e1, ev_seq_nx (ev_for_eq (by simp) h1)]
  simp
end Nk52

set_option Elab.async false
set_option linter.all false
set_option maxRecDepth 100000
set_option maxHeartbeats 4000000
namespace Nk52
open PySem PySem.Spec PyProof.Rows L2 Den
/-- what the law draws: loads and seats that are none to refuse -/
structure Good2 (ls ss : List Int) : Prop where
  l1 : 1 ≤ ls.length
  l2 : ls.length ≤ 6
  l3 : ls.length ≤ ss.length
  s2 : ss.length ≤ 8
  lr : ∀ n ∈ ls, 1 ≤ n ∧ n ≤ 100
  sr : ∀ n ∈ ss, -20 ≤ n ∧ n ≤ 20
  sa : asc ss = true
section
variable {ls ss : List Int}
theorem Good2.small (g : Good2 ls ss) : Small ls ∧ Small ss := ⟨fun n h => by
    have := g.lr n h
    have : n.natAbs < 101 := by omega
    exact Nat.lt_of_lt_of_le this (by decide), fun n h => by
    have := g.sr n h
    have : n.natAbs < 101 := by omega
    exact Nat.lt_of_lt_of_le this (by decide)⟩
theorem Good2.seats (g : Good2 ls ss) : seatsOk (tI ss) = true := by
  simp only [seatsOk, vals_eI, wholes_of g.sr, g.sa, Bool.and_true, decide_eq_true_eq, List.length_map]
  have := g.l1; have := g.l3; have := g.s2
  omega
theorem Good2.loads (g : Good2 ls ss) : loadsOk ss.length (tI ls) = true := by
  simp only [loadsOk, wholes_of g.lr, Bool.and_true, decide_eq_true_eq, List.length_map]
  have := g.l1; have := g.l3; have := g.l2
  omega
theorem Good2.check (g : Good2 ls ss) : cf__check [tI ls, tI ss] = .ok .none := by
  rw [check_eq, if_pos g.seats, if_pos (by show loadsOk (eI ss).length _ = true; rw [List.length_map]; exact g.loads)]
theorem way_small (g : Good2 ls ss) {r : List Int} {n : Nat} (h : r ∈ ways ss n) : Small r := fun x hx => g.small.2 x (((mem_ways ss n r).mp h).2.2 x hx)
/-! least_tilt -/
abbrev enc3 (ls r : List Int) : PyData := .tuple [.int (max2 (tiltOf ls r) (0 - tiltOf ls r)), .int (tiltOf ls r), tI r]
abbrev encT (ls r : List Int) : PyData := .tuple [.int (tiltOf ls r), tI r]
theorem abs_max (t : Int) : (if t < 0 then -t else t) = max2 t (0 - t) := by
  unfold max2
  split <;> split <;> omega
theorem alike_tI (a b : List Int) : PySem.W.alike (tI a) (tI b) = true := by
  show PySem.W.alike (.tuple _) (.tuple _) = true
  rw [PySem.W.alike]
  exact PySem.W.alike_ints a b
theorem alike_enc3 (ls a b : List Int) : PySem.W.alike (enc3 ls a) (enc3 ls b) = true := by
  have := alike_tI a b
  simp [PySem.W.alike, PySem.W.alikeAll] at this ⊢
  exact this
theorem depth_enc3 (ls a : List Int) : (enc3 ls a).depth = 2 := by
  simp [PyData.depth, PyData.depthAll, PySem.W.depth_ints]
theorem depthAll_le {α : Type} (enc : α → PyData) (c : Nat) (h : ∀ a, (enc a).depth ≤ c) : ∀ xs : List α, PyData.depthAll (xs.map enc) ≤ c
  | [] => by simp [PyData.depthAll]
  | x :: xs => by
    rw [List.map_cons, PyData.depthAll]
    exact Nat.max_le.mpr ⟨h x, depthAll_le enc c h xs⟩
theorem mm_ok {α : Type} (enc : α → PyData) (xs : List α) (ha : ∀ a b, PySem.W.alike (enc a) (enc b) = true) (hn : ∀ a, noneD (enc a) = false) (hd : ∀ a, (enc a).depth ≤ 64) : minmaxOk (xs.map enc) = true := by
  unfold minmaxOk alikeB noNoneB
  rw [Bool.and_eq_true, Bool.and_eq_true]
  refine ⟨⟨?_, ?_⟩, decide_eq_true (depthAll_le enc 64 hd xs)⟩
  · rw [List.all_map, List.all_eq_true]
    intro a _
    rw [Function.comp_apply, List.all_map, List.all_eq_true]
    intro b _
    exact ha a b
  · rw [List.all_map, List.all_eq_true]
    intro a _
    simp [hn]
def lt3 (ls a b : List Int) : Bool := PySem.W.dataLt (enc3 ls a) (enc3 ls b)
/-- the first of the least: its row -/
def best (ls : List Int) : List (List Int) → List Int
  | [] => []
  | x :: xs => xs.foldl (fun a y => if lt3 ls y a then y else a) x
theorem min_enc3 (ls : List Int) {rows : List (List Int)} (h : rows ≠ []) : minD [.list (rows.map (enc3 ls))] = .ok (enc3 ls (best ls rows)) := by
  cases rows with
  | nil => exact absurd rfl h
  | cons x xs =>
    show (if minmaxOk (enc3 ls x :: xs.map (enc3 ls)) = true then .ok (PySem.W.minD (enc3 ls x) (xs.map (enc3 ls))) else stuck) = _
    have hm := mm_ok (enc3 ls) (x :: xs) (alike_enc3 ls) (fun _ => rfl) (fun a => by rw [depth_enc3]; decide)
    rw [List.map_cons] at hm
    rw [if_pos hm, minD_map (enc3 ls) (lt3 ls) (fun _ _ => rfl)]
    rfl
def key3 (ls r : List Int) : Int := max2 (tiltOf ls r) (0 - tiltOf ls r)
theorem best_mem (ls : List Int) {rows : List (List Int)} (h : rows ≠ []) : best ls rows ∈ rows := by
  cases rows with
  | nil => exact absurd rfl h
  | cons x xs =>
    have : ∀ (xs : List (List Int)) (x : List Int), xs.foldl (fun a y => if lt3 ls y a then y else a) x ∈ x :: xs := by
      intro xs
      induction xs with
      | nil => intro x; simp
      | cons y ys ih =>
        intro x
        rw [List.foldl_cons]
        rcases List.mem_cons.mp (ih (if lt3 ls y x = true then y else x)) with e | e
        · rw [e]; split <;> simp
        · exact List.mem_cons_of_mem _ (List.mem_cons_of_mem _ e)
    exact this xs x
theorem best_le (ls : List Int) {rows : List (List Int)} {r : List Int} (h : r ∈ rows) : key3 ls (best ls rows) ≤ key3 ls r := by
  cases rows with
  | nil => cases h
  | cons x xs =>
    refine fold_min_key (lt3 ls) (key3 ls) (fun a b hab => ?_) (fun a b hab => ?_) xs x r h
    · have hab : max2 (tiltOf ls a) (0 - tiltOf ls a) < max2 (tiltOf ls b) (0 - tiltOf ls b) := hab
      unfold lt3
      rw [tup_lt_first (by omega)]
      exact decide_eq_true hab
    · by_cases e : max2 (tiltOf ls a) (0 - tiltOf ls a) = max2 (tiltOf ls b) (0 - tiltOf ls b)
      · exact Int.le_of_eq e
      · unfold lt3 at hab
        rw [tup_lt_first e] at hab
        exact Int.le_of_lt (of_decide_eq_true hab)
theorem ways_ne (g : Good2 ls ss) : ways ss ls.length ≠ [] := by
  have hn : ss.Nodup := ((asc_iff ss).mp g.sa).imp (fun h => by omega)
  have : ss.take ls.length ∈ ways ss ls.length := (mem_ways ss _ _).mpr ⟨by rw [List.length_take]; have := g.l3; omega, hn.sublist (List.take_sublist _ _), fun x hx => List.mem_of_mem_take hx⟩
  exact List.ne_nil_of_mem this
theorem least_eq (g : Good2 ls ss) : cf_least_tilt [tI ls, tI ss] = .ok (encT ls (best ls (ways ss ls.length))) := by
  have hb := ways_bound ss g.s2 g.l2
  have e0 : sDrop (dCall cf__check (dCons (dVar 0) (dCons (dVar 1) dNil))) [.dat (tI ls), .dat (tI ss), .un, .un, .un] = .ok (.nx [.dat (tI ls), .dat (tI ss), .un, .un, .un]) := by simp [g.check]
  have c1 : dComp (iD (dCall cf__stowings (dCons (dVar 0) (dCons (dVar 1) dNil)))) [3] (.nm 3) tYesD (dTup (dCons (dCall cf__tilt (dCons (dVar 0) (dCons (dVar 3) dNil))) (dCons (dVar 3) dNil))) [.dat (tI ls), .dat (tI ss), .un, .un, .un] = .ok ((ways ss ls.length).map (encT ls)) := by
    refine dComp_map (xs := ways ss ls.length) tI _ ?_ (by decide) (by omega) fun r hr => ?_
    · simp [stow_eq ls ss g.l2 g.s2]
    · have ht := tilt_eq ls r g.small.1 (way_small g hr) (by have := g.l2; omega)
      simp [bodyC, wipeD, ht]
  have e1 : sSet 2 (dLst (dComp (iD (dCall cf__stowings (dCons (dVar 0) (dCons (dVar 1) dNil)))) [3] (.nm 3) tYesD (dTup (dCons (dCall cf__tilt (dCons (dVar 0) (dCons (dVar 3) dNil))) (dCons (dVar 3) dNil))))) [.dat (tI ls), .dat (tI ss), .un, .un, .un] = .ok (.nx [.dat (tI ls), .dat (tI ss), .dat (.list ((ways ss ls.length).map (encT ls))), .un, .un]) := by
    rw [ev_set, ev_lst, c1]; rfl
  have c2 : dComp (iD (dVar 2)) [4, 3] (.tp [(.nm 4), (.nm 3)]) tYesD (dTup (dCons (dCall absD (dCons (dVar 4) dNil)) (dCons (dVar 4) (dCons (dVar 3) dNil)))) [.dat (tI ls), .dat (tI ss), .dat (.list ((ways ss ls.length).map (encT ls))), .un, .un] = .ok ((ways ss ls.length).map (enc3 ls)) := by
    refine dComp_map (xs := ways ss ls.length) (encT ls) _ ?_ (by decide) (by omega) fun r hr => ?_
    · simp
    · simp [bodyC, wipeD, abs_max]
  show outD (bd_least_tilt [.dat (tI ls), .dat (tI ss), .un, .un, .un]) = _
  show outD (sSeq _ (sSeq _ _) _) = _
  rw [ev_seq_nx e0, ev_seq_nx e1]
  simp only [ev_ret, ev_sl, ev_call, ev_cons, ev_lst, c2, ok_m, ok_b, ev_nil, min_enc3 ls (ways_ne g), ev_oS, ev_oN, ev_lit, sl_t, ev_lift_ok, out_rt]
  rw [cut_from _ (by decide)]
  rfl
theorem count_eq (g : Good2 ls ss) : cf_count_level [tI ls, tI ss] = .ok (.int ((ways ss ls.length).countP fun r => decide (tiltOf ls r = 0))) := by
  have hb := ways_bound ss g.s2 g.l2
  have e0 : sDrop (dCall cf__check (dCons (dVar 0) (dCons (dVar 1) dNil))) [.dat (tI ls), .dat (tI ss), .un] = .ok (.nx [.dat (tI ls), .dat (tI ss), .un]) := by simp [g.check]
  have c1 : dComp (iD (dCall cf__stowings (dCons (dVar 0) (dCons (dVar 1) dNil)))) [2] (.nm 2) (tVal (dOp2 eqD (dCall cf__tilt (dCons (dVar 0) (dCons (dVar 2) dNil))) (dLit (.int 0)))) (dVar 2) [.dat (tI ls), .dat (tI ss), .un] = .ok ((ways ss ls.length).filterMap fun r => if tiltOf ls r = 0 then some (tI r) else none) := by
    refine dComp_eq (xs := ways ss ls.length) tI _ ?_ (by decide) (by omega) fun r hr => ?_
    · simp [stow_eq ls ss g.l2 g.s2]
    · have ht := tilt_eq ls r g.small.1 (way_small g hr) (by have := g.l2; omega)
      by_cases h0 : tiltOf ls r = 0 <;> simp [bodyC, wipeD, ht, h0]
  have hl : ∀ rows : List (List Int), (rows.filterMap fun r => if tiltOf ls r = 0 then some (tI r) else none).length = rows.countP fun r => decide (tiltOf ls r = 0) := by
    intro rows
    induction rows with
    | nil => rfl
    | cons r rows ih =>
      rw [List.filterMap_cons, List.countP_cons]
      by_cases h0 : tiltOf ls r = 0 <;> simp [h0, ih]
  show outD (bd_count_level [.dat (tI ls), .dat (tI ss), .un]) = _
  show outD (sSeq _ _ _) = _
  rw [ev_seq_nx e0]
  simp only [ev_ret, ev_call, ev_cons, ev_lst, c1, ok_m, ok_b, ev_nil, len_l, hl, ev_lift_ok, out_rt]
end
end Nk52

set_option Elab.async false
set_option linter.all false
set_option maxRecDepth 100000
set_option maxHeartbeats 4000000
namespace Nk52
open PySem PySem.Spec PyProof.Rows L2 Den
/-! ### len({one: True for one in ns}) -/
def addU (acc : List Int) (n : Int) : List Int := if n ∈ acc then acc else acc ++ [n]
def encK (acc : List Int) : List (Key × PyData) := acc.map fun n => (.inl n, .bool true)
theorem put_enc (acc : List Int) (n : Int) : putD (encK acc) (.inl n) (.bool true) = encK (addU acc n) := by
  unfold putD addU encK
  have e : ((acc.map fun n => ((.inl n : Key), PyData.bool true)).any fun kv => decide (kv.1 = .inl n)) = decide (n ∈ acc) := by
    rw [List.any_map, Bool.eq_iff_iff, List.any_eq_true, decide_eq_true_eq]
    constructor
    · rintro ⟨x, hx, h⟩
      simp at h
      exact h ▸ hx
    · intro h
      exact ⟨n, h, by simp⟩
  rw [e]
  by_cases h : n ∈ acc
  · simp only [h, decide_true, if_true, List.map_map]
    refine List.map_congr_left fun x hx => ?_
    simp only [Function.comp_apply]
    split <;> simp_all
  · simp [h]
theorem addU_len (acc : List Int) (n : Int) : (addU acc n).length ≤ acc.length + 1 := by
  unfold addU
  split <;> simp
theorem foldU_len : ∀ (ns acc : List Int), (ns.foldl addU acc).length ≤ acc.length + ns.length
  | [], acc => by simp
  | n :: ns, acc => by
    rw [List.foldl_cons, List.length_cons]
    have := foldU_len ns (addU acc n)
    have := addU_len acc n
    omega
theorem foldU_iff : ∀ (ns acc : List Int), (ns.foldl addU acc).length = acc.length + ns.length ↔ ns.Nodup ∧ ∀ n ∈ ns, n ∉ acc
  | [], acc => by simp
  | n :: ns, acc => by
    rw [List.foldl_cons, List.length_cons]
    by_cases h : n ∈ acc
    · have e : addU acc n = acc := if_pos h
      rw [e]
      have := foldU_len ns acc
      constructor
      · intro q; omega
      · intro q; exact absurd h (q.2 n (by simp))
    · have e : addU acc n = acc ++ [n] := if_neg h
      rw [e]
      have ih := foldU_iff ns (acc ++ [n])
      rw [List.length_append, List.length_singleton] at ih
      rw [show acc.length + (ns.length + 1) = acc.length + 1 + ns.length by omega, ih, List.nodup_cons]
      constructor
      · rintro ⟨h1, h2⟩
        refine ⟨⟨fun hn => (h2 n hn) (by simp), h1⟩, fun m hm => ?_⟩
        rcases List.mem_cons.mp hm with rfl | hm
        · exact h
        · exact fun hma => h2 m hm (by simp [hma])
      · rintro ⟨⟨h1, h2⟩, h3⟩
        refine ⟨h2, fun m hm hma => ?_⟩
        rcases List.mem_append.mp hma with hma | hma
        · exact h3 m (by simp [hm]) hma
        · rw [List.mem_singleton] at hma
          subst hma
          exact h1 hm
theorem compU {ρ : EnvD} {j : Nat} (hj : j < ρ.length) : ∀ (ns acc : List Int), acc.length + ns.length ≤ 1000000 → compD (.nm j) tYesD (dVar j) (dLit (.bool true)) ρ (encK acc) (eI ns) = .ok (encK (ns.foldl addU acc))
  | [], acc, _ => rfl
  | n :: ns, acc, h => by
    show compD _ _ _ _ _ _ (.int n :: eI ns) = _
    rw [List.length_cons] at h
    have hv : dVar j (ρ.set j (.dat (.int n))) = .ok (.int n) := by rw [ev_var, List.getElem?_set_self hj]
    have hz : (encK acc).length < sizeLine := by
      unfold encK
      rw [List.length_map, sizeLine_eq]
      omega
    have := addU_len acc n
    rw [compD, ev_nm, ok_b, ev_yes, ok_b, if_pos rfl, hv, ok_b, ev_lit, ok_b]
    show (if (encK acc).length < sizeLine then compD _ _ _ _ _ (putD (encK acc) (.inl n) (.bool true)) (eI ns) else stuck) = _
    rw [if_pos hz, put_enc, compU hj ns (addU acc n) (by omega), List.foldl_cons]
theorem lenU {ρ : EnvD} {i j : Nat} {ns : List Int} (hi : dVar i ρ = .ok (tI ns)) (hj : j < ρ.length) (hl : ns.length ≤ 1000000) : dLenDc (dDc (iD (dVar i)) [j] (.nm j) tYesD (dVar j) (dLit (.bool true))) ρ = .ok (.int ((ns.foldl addU []).length : Nat)) := by
  have h := compU (ρ := wipeD ρ [j]) (j := j) (by simpa [wipeD] using hj) ns [] (by simpa using hl)
  show (dDc (iD (dVar i)) [j] (.nm j) tYesD (dVar j) (dLit (.bool true)) ρ >>= _) = _
  have e : dDc (iD (dVar i)) [j] (.nm j) tYesD (dVar j) (dLit (.bool true)) ρ = .ok (encK (ns.foldl addU [])) := by
    unfold dDc
    rw [ev_iD, hi, ok_b, it_t, ok_b, if_pos (by simp [Tg.within])]
    show noExc (compD _ _ _ _ _ (encK []) (eI ns)) = _
    rw [h]
    rfl
  rw [e, ok_b]
  unfold encK
  rw [List.length_map]
variable {ls ss : List Int}
/-! ### stowings -/
def stowOk (n : Nat) (ss : List Int) : PyData → Bool
  | .tuple ds => decide (ds.length = n) && wholes ds (-20) 20 && ((vals ds).all fun s => ss.contains s) && decide ((vals ds).Nodup)
  | _ => false
def whIn (ss : List Int) (d : PyData) : Bool := isWhole d (-20) 20 && (match d with | .int i => ss.contains i | _ => false)
theorem whIn_all (ds : List PyData) (ss : List Int) : ds.all (whIn ss) = (wholes ds (-20) 20 && ((vals ds).all fun s => ss.contains s)) := by
  by_cases h : wholes ds (-20) 20 = true
  · obtain ⟨ns, rfl, hn⟩ := wholes_ints h
    rw [h, Bool.true_and, vals_eI, List.all_map]
    have : ∀ ms : List Int, (∀ n ∈ ms, -20 ≤ n ∧ n ≤ 20) → ms.all (whIn ss ∘ PyData.int) = ms.all fun s => ss.contains s := by
      intro ms
      induction ms with
      | nil => intro _; rfl
      | cons m ms ih =>
        intro hm
        rw [List.all_cons, List.all_cons, ih fun n hn => hm n (by simp [hn])]
        have := hm m (by simp)
        simp [whIn, isWhole, this]
    exact this ns hn
  · have hf : wholes ds (-20) 20 = false := by simpa using h
    rw [hf, Bool.false_and, List.all_eq_false]
    unfold wholes at hf
    rw [List.all_eq_false] at hf
    obtain ⟨d, hd, hx⟩ := hf
    refine ⟨d, hd, ?_⟩
    unfold whIn
    simp at hx ⊢
    intro hy
    rw [hx] at hy; cases hy
theorem allWS (ds : List PyData) (ss : List Int) (hl : ds.length ≤ 1000) {a : PyData} :
    dCall allD (dCons (dLst (dComp (iD (dVar 2)) [3] (.nm 3) tYesD (dAndV (dCall cf_is_whole (dCons (dVar 3) (dCons (dOp2 subD (dLit (.int 0)) (dLit (.int 20))) (dCons (dLit (.int 20)) dNil)))) (dOp2 inD (dVar 3) (dVar 1))))) dNil) [.dat a, .dat (tI ss), .dat (.tuple ds), .un] = .ok (.bool (wholes ds (-20) 20 && ((vals ds).all fun s => ss.contains s))) := by
  have hc : dComp (iD (dVar 2)) [3] (.nm 3) tYesD (dAndV (dCall cf_is_whole (dCons (dVar 3) (dCons (dOp2 subD (dLit (.int 0)) (dLit (.int 20))) (dCons (dLit (.int 20)) dNil)))) (dOp2 inD (dVar 3) (dVar 1))) [.dat a, .dat (tI ss), .dat (.tuple ds), .un] = .ok (ds.map fun d => .bool (whIn ss d)) := by
    refine dComp_map (xs := ds) (fun d => d) _ (by simp) (by decide) (by omega) fun d hd => ?_
    cases d with
    | int i =>
      by_cases h : isWhole (.int i) (-20) 20 = true
      · simp [bodyC, wipeD, cfW, h, whIn]
      · simp [bodyC, wipeD, cfW, h, whIn]
    | _ => simp [bodyC, wipeD, cfW, isWhole, whIn]
  rw [← whIn_all]
  simp only [ev_call, ev_cons, ev_lst, hc, ok_m, ok_b, ev_nil, all_map]
theorem stow_check (g : Good2 ls ss) (sd : PyData) : cf__check_stowing [tI ls, tI ss, sd] = if stowOk ls.length ss sd = true then .ok .none else .error (.exc "BadStowing" none) := by
  have e0 : sDrop (dCall cf__check (dCons (dVar 0) (dCons (dVar 1) dNil))) [.dat (tI ls), .dat (tI ss), .dat sd, .un] = .ok (.nx [.dat (tI ls), .dat (tI ss), .dat sd, .un]) := by simp [g.check]
  show outD (bd__check_stowing [.dat (tI ls), .dat (tI ss), .dat sd, .un]) = _
  show outD (sSeq _ (sSeq _ (sSeq _ _)) _) = _
  rw [ev_seq_nx e0]
  cases sd with
  | tuple ds =>
    by_cases h1 : ds.length = ls.length
    · have s1 : sIf (tOrD (tNotD (tVal (dIsi "tuple" (dVar 2)))) (tVal (dOp2 neD (dCall lenD (dCons (dVar 2) dNil)) (dCall lenD (dCons (dVar 0) dNil))))) (sRaise "BadStowing") sSkip [.dat (tI ls), .dat (tI ss), .dat (.tuple ds), .un] = .ok (.nx [.dat (tI ls), .dat (tI ss), .dat (.tuple ds), .un]) := by
        simp [isinstD, h1]
      rw [ev_seq_nx s1]
      have hw := allWS ds ss (by have := g.l2; omega) (a := tI ls)
      by_cases h2 : (wholes ds (-20) 20 && ((vals ds).all fun s => ss.contains s)) = true
      · have s2 : sIf (tNotD (tVal (dCall allD (dCons (dLst (dComp (iD (dVar 2)) [3] (.nm 3) tYesD (dAndV (dCall cf_is_whole (dCons (dVar 3) (dCons (dOp2 subD (dLit (.int 0)) (dLit (.int 20))) (dCons (dLit (.int 20)) dNil)))) (dOp2 inD (dVar 3) (dVar 1))))) dNil)))) (sRaise "BadStowing") sSkip [.dat (tI ls), .dat (tI ss), .dat (.tuple ds), .un] = .ok (.nx [.dat (tI ls), .dat (tI ss), .dat (.tuple ds), .un]) := by
          rw [ev_sIf, ev_not, ev_val, hw, h2]
          rfl
        rw [ev_seq_nx s2]
        have h2' := h2
        rw [Bool.and_eq_true] at h2'
        obtain ⟨ns, rfl, hn⟩ := wholes_ints h2'.1
        have hU := lenU (ρ := [.dat (tI ls), .dat (tI ss), .dat (tI ns), .un]) (i := 2) (j := 3) (ns := ns) (by simp) (by simp) (by have := g.l2; simp at h1; omega)
        have hi := foldU_iff ns []
        have hle := foldU_len ns []
        simp only [List.length_nil, Nat.zero_add] at hi hle
        rw [ev_sIf, ev_val, ev_op2, hU]
        by_cases h3 : ns.Nodup
        · have he : (ns.foldl addU []).length = ns.length := hi.mpr ⟨h3, fun _ _ h => by cases h⟩
          have hs : stowOk ls.length ss (.tuple (eI ns)) = true := by
            simp only [stowOk, h1, h2, vals_eI, h3, decide_true, Bool.true_and, Bool.and_true]
            rw [vals_eI] at h2
            simpa using h2
          rw [if_pos hs]
          simp [he]
        · have hlt : (ns.foldl addU []).length < ns.length := by
            rcases Nat.lt_or_ge (ns.foldl addU []).length ns.length with h | h
            · exact h
            · exact absurd (hi.mp (Nat.le_antisymm hle h)).1 h3
          have hs : ¬ stowOk ls.length ss (.tuple (eI ns)) = true := by simp [stowOk, h3]
          rw [if_neg hs]
          simp [hlt]
      · have hf : (wholes ds (-20) 20 && ((vals ds).all fun s => ss.contains s)) = false := by simpa using h2
        have s2 : sIf (tNotD (tVal (dCall allD (dCons (dLst (dComp (iD (dVar 2)) [3] (.nm 3) tYesD (dAndV (dCall cf_is_whole (dCons (dVar 3) (dCons (dOp2 subD (dLit (.int 0)) (dLit (.int 20))) (dCons (dLit (.int 20)) dNil)))) (dOp2 inD (dVar 3) (dVar 1))))) dNil)))) (sRaise "BadStowing") sSkip [.dat (tI ls), .dat (tI ss), .dat (.tuple ds), .un] = .ok (.xc "BadStowing" none [.dat (tI ls), .dat (tI ss), .dat (.tuple ds), .un]) := by
          rw [ev_sIf, ev_not, ev_val, hw, hf]
          rfl
        have hs : ¬ stowOk ls.length ss (.tuple ds) = true := by
          intro h
          simp only [stowOk, Bool.and_eq_true] at h
          rw [h.1.1.2, h.1.2] at hf
          cases hf
        rw [ev_seq_xc s2, if_neg hs]
        rfl
    · have s1 : sIf (tOrD (tNotD (tVal (dIsi "tuple" (dVar 2)))) (tVal (dOp2 neD (dCall lenD (dCons (dVar 2) dNil)) (dCall lenD (dCons (dVar 0) dNil))))) (sRaise "BadStowing") sSkip [.dat (tI ls), .dat (tI ss), .dat (.tuple ds), .un] = .ok (.xc "BadStowing" none [.dat (tI ls), .dat (tI ss), .dat (.tuple ds), .un]) := by
        have : ¬ (ds.length : Int) = ls.length := by omega
        simp [isinstD, this]
      rw [ev_seq_xc s1, if_neg (by simp [stowOk, h1])]
      rfl
  | _ => rw [if_neg (by simp [stowOk])]; simp [isinstD]
theorem stow_way (g : Good2 ls ss) {r : List Int} (h : r ∈ ways ss ls.length) : stowOk ls.length ss (tI r) = true := by
  obtain ⟨h1, h2, h3⟩ := (mem_ways ss _ r).mp h
  have hw := wholes_of (ns := r) (lo := -20) (hi := 20) fun n hn => g.sr n (h3 n hn)
  simp only [stowOk, List.length_map, h1, hw, vals_eI, h2, decide_true, Bool.and_true, Bool.true_and, List.all_eq_true]
  intro x hx
  simpa using h3 x hx
theorem tiltof_eq (g : Good2 ls ss) {r : List Int} (h : r ∈ ways ss ls.length) : cf_tilt_of [tI ls, tI ss, tI r] = .ok (.int (tiltOf ls r)) := by
  have hc := stow_check g (tI r)
  rw [if_pos (stow_way g h)] at hc
  have ht := tilt_eq ls r g.small.1 (way_small g h) (by have := g.l2; omega)
  show outD (bd_tilt_of [.dat (tI ls), .dat (tI ss), .dat (tI r)]) = _
  simp [bd_tilt_of, hc, ht]
/-! ### errors -/
/-- what a call of a checked def gives where the check refuses -/
theorem err_check (x : String) (word : PyData) (hx : (x = "BadSeats" ∧ word = .str "seats") ∨ (x = "BadLoads" ∧ word = .str "loads")) (w : Nat) (hw : w < 5) (ld sd st : PyData) (hc : cf__check [ld, sd] = .error (.exc x none)) : cf__law_error [.int w, ld, sd, st] = .ok word := by
  have hs : cf__check_stowing [ld, sd, st] = .error (.exc x none) := by
    show outD (bd__check_stowing [.dat ld, .dat sd, .dat st, .un]) = _
    simp [bd__check_stowing, hc]
  have h0 : cf_tilt_of [ld, sd, st] = .error (.exc x none) := by
    show outD (bd_tilt_of [.dat ld, .dat sd, .dat st]) = _
    simp [bd_tilt_of, hs]
  have h1 : cf_boarding [ld, sd, st, .int 0] = .error (.exc x none) := by
    show outD (bd_boarding [.dat ld, .dat sd, .dat st, .dat (.int 0)]) = _
    simp [bd_boarding, hs]
  have h2 : cf_steadiest [ld, sd, st] = .error (.exc x none) := by
    show outD (bd_steadiest [.dat ld, .dat sd, .dat st, .un, .un, .un, .un, .un]) = _
    simp [bd_steadiest, hs]
  have h3 : cf_least_tilt [ld, sd] = .error (.exc x none) := by
    show outD (bd_least_tilt [.dat ld, .dat sd, .un, .un, .un]) = _
    simp [bd_least_tilt, hc]
  have h4 : cf_count_level [ld, sd] = .error (.exc x none) := by
    show outD (bd_count_level [.dat ld, .dat sd, .un]) = _
    simp [bd_count_level, hc]
  show outD (bd__law_error [.dat (.int w), .dat ld, .dat sd, .dat st, .un]) = _
  have hw' : w = 0 ∨ w = 1 ∨ w = 2 ∨ w = 3 ∨ w = 4 := by omega
  rcases hx with ⟨rfl, rfl⟩ | ⟨rfl, rfl⟩ <;> rcases hw' with rfl | rfl | rfl | rfl | rfl <;> simp [bd__law_error, sTry, catchD, subE, h0, h1, h2, h3, h4]
theorem err_seats (w : Nat) (hw : w < 5) (ld sd st : PyData) (h : seatsOk sd = false) : cf__law_error [.int w, ld, sd, st] = .ok (.str "seats") :=
  err_check "BadSeats" _ (.inl ⟨rfl, rfl⟩) w hw ld sd st (by rw [check_eq, h]; rfl)
theorem err_loads (w : Nat) (hw : w < 5) (ld st : PyData) {n : Nat} (hs : seatsOk (tI ss) = true) (hn : ss.length = n) (h : loadsOk n ld = false) : cf__law_error [.int w, ld, tI ss, st] = .ok (.str "loads") :=
  err_check "BadLoads" _ (.inr ⟨rfl, rfl⟩) w hw ld (tI ss) st (by
    rw [check_eq, if_pos hs]
    show (if loadsOk (eI ss).length ld = true then _ else _) = _
    rw [List.length_map, hn, h]
    rfl)
theorem err_stow (g : Good2 ls ss) (w : Nat) (hw : w < 3) (st : PyData) (h : stowOk ls.length ss st = false) : cf__law_error [.int w, tI ls, tI ss, st] = .ok (.str "stowing") := by
  have hs : cf__check_stowing [tI ls, tI ss, st] = .error (.exc "BadStowing" none) := by rw [stow_check g, h]; rfl
  have h0 : cf_tilt_of [tI ls, tI ss, st] = .error (.exc "BadStowing" none) := by
    show outD (bd_tilt_of [.dat (tI ls), .dat (tI ss), .dat st]) = _
    simp [bd_tilt_of, hs]
  have h1 : cf_boarding [tI ls, tI ss, st, .int 0] = .error (.exc "BadStowing" none) := by
    show outD (bd_boarding [.dat (tI ls), .dat (tI ss), .dat st, .dat (.int 0)]) = _
    simp [bd_boarding, hs]
  have h2 : cf_steadiest [tI ls, tI ss, st] = .error (.exc "BadStowing" none) := by
    show outD (bd_steadiest [.dat (tI ls), .dat (tI ss), .dat st, .un, .un, .un, .un, .un]) = _
    simp [bd_steadiest, hs]
  show outD (bd__law_error [.dat (.int w), .dat (tI ls), .dat (tI ss), .dat st, .un]) = _
  have hw' : w = 0 ∨ w = 1 ∨ w = 2 := by omega
  rcases hw' with rfl | rfl | rfl <;> simp [bd__law_error, sTry, catchD, subE, sIsi, h0, h1, h2]
end Nk52

set_option Elab.async false
set_option linter.all false
set_option maxRecDepth 100000
set_option maxHeartbeats 4000000
namespace Nk52
open PySem PySem.Spec PyProof.Rows L2 Den
variable {ls ss : List Int}
/-! ### seats -/
theorem insU_len (i : Int) : ∀ js : List Int, (insU i js).length ≤ js.length + 1 ∧ 1 ≤ (insU i js).length
  | [] => by simp [insU]
  | j :: js => by
    have := insU_len i js
    unfold insU
    split
    · simp
    · split
      · simp
      · simp; omega
theorem sortU_len : ∀ ns : List Int, (sortU ns).length ≤ ns.length ∧ (ns ≠ [] → 1 ≤ (sortU ns).length)
  | [] => by simp [sortU]
  | n :: ns => by
    have := sortU_len ns
    have := insU_len n (sortU ns)
    show (insU n (sortU ns)).length ≤ _ ∧ _
    rw [List.length_cons]
    refine ⟨by omega, fun _ => this.2⟩
structure SeatsOk (ss : List Int) : Prop where
  l1 : 1 ≤ ss.length
  l2 : ss.length ≤ 6
  sr : ∀ n ∈ ss, -10 ≤ n ∧ n ≤ 10
  sa : ss.Pairwise (· < ·)
theorem ix_l {ns : List Int} {k : Int} {x : Int} (h0 : 0 ≤ k) (h : ns[k.toNat]? = some x) : ixD (lI ns) (.int k) = .ok (.int x) := by
  show (match atI (eI ns) k with | some x => (.ok x : Rs PyData) | none => stuck) = _
  rw [atI_nat' h0 (by rw [List.getElem?_map, h]; rfl)]
theorem ix_t {ns : List Int} {k : Int} {x : Int} (h0 : 0 ≤ k) (h : ns[k.toNat]? = some x) : ixD (tI ns) (.int k) = .ok (.int x) := by
  show (match atI (eI ns) k with | some x => (.ok x : Rs PyData) | none => stuck) = _
  rw [atI_nat' h0 (by rw [List.getElem?_map, h]; rfl)]
theorem seats_eq (ds : List Int) (h : 7 ≤ ds.length) : ∃ ss, cf__law_seats [lI ds, .int 4] = .ok (tI ss) ∧ SeatsOk ss := by
  obtain ⟨d0, hd0⟩ : ∃ d0, ds[0]? = some d0 := ⟨ds[0], by simp⟩
  obtain ⟨m0, m1⟩ := fmod_rng (a := d0) (m := 3) (by decide)
  generalize hm : d0.fmod 3 = m at m0 m1
  let f : Nat → Int := fun k => (ds.getD (1 + k) 0).fmod 21 - 10
  let ns : List Int := (List.range (4 + m).toNat).map f
  have hr : range1D [.int (4 + m)] = .ok ((List.range (4 + m).toNat).map fun (i : Nat) => .int i) := range1_ok (by omega) (by omega)
  have hc : dComp (dCallL range1D (dCons (dOp2 addD (dVar 1) (dOp2 modD (dCall intD (dCons (dOp2 ixD (dVar 0) (dLit (.int 0))) dNil)) (dLit (.int 3)))) dNil)) [2] (.nm 2) tYesD (dOp2 subD (dOp2 modD (dCall intD (dCons (dOp2 ixD (dVar 0) (dOp2 addD (dLit (.int 1)) (dVar 2))) dNil)) (dLit (.int 21))) (dLit (.int 10))) [.dat (lI ds), .dat (.int 4), .un] = .ok ((List.range (4 + m).toNat).map fun (k : Nat) => .int (f k)) := by
    refine dComp_map (xs := List.range (4 + m).toNat) (fun (i : Nat) => .int i) _ ?_ (by decide) (by simp; omega) fun k hk => ?_
    · have i0 : ixD (lI ds) (.int 0) = .ok (.int d0) := ix_l (by decide) hd0
      simp [i0, mod_i, hm, hr]
    · have hk := List.mem_range.mp hk
      have hlt : 1 + k < ds.length := by omega
      have i1 : ixD (lI ds) (.int (1 + (k : Int))) = .ok (.int (ds.getD (1 + k) 0)) := ix_l (by omega) (by
        rw [show (1 + (k : Int)).toNat = 1 + k by omega, List.getD_eq_getElem?_getD, List.getElem?_eq_getElem hlt]; rfl)
      simp only [bodyC, wipeD, ev_nm, ok_b]
      simp [i1, mod_i, f]
  have hlen : ns.length = (4 + m).toNat := by simp [ns]
  have hS := sortU_len ns
  refine ⟨sortU ns, ?_, ⟨hS.2 (fun e => by rw [e] at hlen; simp at hlen; omega), by omega, fun n hn => ?_, sortU_asc ns⟩⟩
  · show outD (bd__law_seats [.dat (lI ds), .dat (.int 4), .un]) = _
    have e1 : ((List.range (4 + m).toNat).map fun (k : Nat) => PyData.int (f k)) = eI ns := by simp [ns]
    simp only [bd__law_seats, ev_ret, ev_call, ev_cons, ev_lst, ev_nil]
    have e2 : dSortSet (dLst (dComp (dCallL range1D (dCons (dOp2 addD (dVar 1) (dOp2 modD (dCall intD (dCons (dOp2 ixD (dVar 0) (dLit (.int 0))) dNil)) (dLit (.int 3)))) dNil)) [2] (.nm 2) tYesD (dOp2 subD (dOp2 modD (dCall intD (dCons (dOp2 ixD (dVar 0) (dOp2 addD (dLit (.int 1)) (dVar 2))) dNil)) (dLit (.int 21))) (dLit (.int 10))))) [.dat (lI ds), .dat (.int 4), .un] = .ok (eI (sortU ns)) := by
      show (dLst _ _ >>= _) = _
      rw [ev_lst, hc, ok_m, ok_b, e1]
      show (match intsOf (eI ns) with | some ns => if ns.length < 64 then (.ok ((sortU ns).map .int) : Rs (List PyData)) else stuck | none => stuck) = _
      rw [intsOf_map]
      show (if ns.length < 64 then _ else _) = _
      rw [if_pos (by omega)]
    rw [e2]
    rfl
  · have := (mem_sortU n ns).mp hn
    obtain ⟨k, _, rfl⟩ := List.mem_map.mp this
    obtain ⟨a, b⟩ := fmod_rng (a := ds.getD (1 + k) 0) (m := 21) (by decide)
    show -10 ≤ (ds.getD (1 + k) 0).fmod 21 - 10 ∧ (ds.getD (1 + k) 0).fmod 21 - 10 ≤ 10
    omega
/-! ### the mirror -/
def neg (r : List Int) : List Int := r.map fun x => 0 - x
theorem neg_neg (r : List Int) : neg (neg r) = r := by
  unfold neg
  rw [List.map_map]
  conv => rhs; rw [← List.map_id r]
  refine List.map_congr_left fun x _ => ?_
  simp
theorem tilt_neg : ∀ (ls r : List Int), tiltOf ls (neg r) = 0 - tiltOf ls r
  | [], r => by simp [tiltOf]
  | l :: ls, [] => by simp [tiltOf, neg]
  | l :: ls, x :: r => by
    have ih := tilt_neg ls r
    unfold tiltOf neg at ih ⊢
    rw [List.map_cons, List.zip_cons_cons, List.map_cons, List.sum_cons, ih, List.zip_cons_cons, List.map_cons, List.sum_cons]
    simp only [Int.mul_sub, Int.mul_zero]
    omega
def mir (ss : List Int) : List Int := ss.reverse.map fun x => 0 - x
theorem mem_mir (ss : List Int) (x : Int) : x ∈ mir ss ↔ 0 - x ∈ ss := by
  unfold mir
  rw [List.mem_map]
  constructor
  · rintro ⟨y, hy, rfl⟩
    rw [show 0 - (0 - y) = y by omega]
    exact List.mem_reverse.mp hy
  · intro h
    exact ⟨0 - x, List.mem_reverse.mpr h, by omega⟩
theorem mir_asc (h : ss.Pairwise (· < ·)) : (mir ss).Pairwise (· < ·) := by
  unfold mir
  rw [List.pairwise_map, List.pairwise_reverse]
  exact h.imp fun h => by omega
theorem neg_nodup {r : List Int} (h : r.Nodup) : (neg r).Nodup := by
  unfold neg
  rw [List.Nodup, List.pairwise_map]
  exact h.imp fun h e => h (by omega)
theorem ways_mir (ss r : List Int) (n : Nat) : r ∈ ways (mir ss) n ↔ neg r ∈ ways ss n := by
  rw [mem_ways, mem_ways]
  constructor
  · rintro ⟨h1, h2, h3⟩
    refine ⟨by simpa [neg] using h1, neg_nodup h2, fun x hx => ?_⟩
    obtain ⟨y, hy, rfl⟩ := List.mem_map.mp hx
    exact (mem_mir ss y).mp (h3 y hy)
  · rintro ⟨h1, h2, h3⟩
    refine ⟨by simpa [neg] using h1, by rw [← neg_neg r]; exact neg_nodup h2, fun x hx => ?_⟩
    exact (mem_mir ss x).mpr (h3 (0 - x) (List.mem_map.mpr ⟨x, hx, rfl⟩))
theorem asc_nodup (h : ss.Pairwise (· < ·)) : ss.Nodup := h.imp fun h => by omega
theorem count_mir (h : ss.Pairwise (· < ·)) (ls : List Int) (n : Nat) : (ways (mir ss) n).countP (fun r => decide (tiltOf ls r = 0)) = (ways ss n).countP fun r => decide (tiltOf ls r = 0) := by
  have n1 := ways_nodup (mir ss) (asc_nodup (mir_asc h)) n
  have n2 := ways_nodup ss (asc_nodup h) n
  have n3 : ((ways ss n).map neg).Nodup := by
    rw [List.Nodup, List.pairwise_map]
    exact n2.imp fun {a b} hab e => hab (by rw [← neg_neg a, e, neg_neg])
  have p : (ways (mir ss) n).Perm ((ways ss n).map neg) := (List.perm_ext_iff_of_nodup n1 n3).mpr fun r => by
    rw [ways_mir, List.mem_map]
    constructor
    · intro h; exact ⟨neg r, h, neg_neg r⟩
    · rintro ⟨q, hq, rfl⟩; rw [neg_neg]; exact hq
  rw [p.countP_eq, List.countP_map]
  refine List.countP_congr fun r _ => ?_
  simp only [Function.comp_apply, tilt_neg, decide_eq_true_eq]
  omega
theorem key_neg (ls r : List Int) : key3 ls (neg r) = key3 ls r := by
  unfold key3
  rw [tilt_neg]
  unfold max2
  split <;> split <;> omega
theorem best_mir (ls : List Int) (n : Nat) (h1 : ways ss n ≠ []) (h2 : ways (mir ss) n ≠ []) : key3 ls (best ls (ways (mir ss) n)) = key3 ls (best ls (ways ss n)) := by
  have m1 := best_mem ls h1
  have m2 := best_mem ls h2
  have a := best_le ls (rows := ways ss n) ((ways_mir ss _ n).mp m2)
  have b := best_le ls (rows := ways (mir ss) n) (r := neg (best ls (ways ss n))) ((ways_mir ss _ n).mpr (by rw [neg_neg]; exact m1))
  rw [key_neg] at a b
  omega
theorem Good2.mirror (g : Good2 ls ss) : Good2 ls (mir ss) where
  l1 := g.l1
  l2 := g.l2
  l3 := by simpa [mir] using g.l3
  s2 := by simpa [mir] using g.s2
  lr := g.lr
  sr := fun n hn => by have := g.sr _ ((mem_mir ss n).mp hn); omega
  sa := (asc_iff _).mpr (mir_asc ((asc_iff ss).mp g.sa))
end Nk52

set_option Elab.async false
set_option linter.all false
set_option maxRecDepth 100000
set_option maxHeartbeats 4000000
namespace Nk52
open PySem PySem.Spec PyProof.Rows L2 Den
variable {ls ss ds : List Int} {a0 a2 a3 a4 a5 a6 a7 a8 a9 a10 a11 a12 a13 a14 a15 : B}
abbrev E (a0 a1 a2 a3 a4 a5 a6 a7 a8 a9 a10 a11 a12 a13 a14 a15 : B) : EnvD := [a0, a1, a2, a3, a4, a5, a6, a7, a8, a9, a10, a11, a12, a13, a14, a15]
theorem st5 (hd : ds.length = 60) {k : Nat} (hk : k < 5) : ∃ ss, SeatsOk ss ∧ s5_law (E a0 (.dat (lI ds)) (.dat (.int k)) a3 a4 a5 a6 a7 a8 a9 a10 a11 a12 a13 a14 a15) = .ok (.nx (E a0 (.dat (lI ds)) (.dat (.int k)) (.dat (tI ss)) a4 a5 a6 a7 a8 a9 a10 a11 a12 a13 a14 a15)) := by
  obtain ⟨ss, h, ok⟩ := seats_eq (ds.drop (7 * k)) (by rw [List.length_drop]; omega)
  refine ⟨ss, ok, ?_⟩
  have hm : mulD (.int 7) (.int k) = .ok (.int (7 * k)) := mul_abs (by decide) (by
    have : (k : Int).natAbs < 5 := by omega
    exact Nat.lt_of_lt_of_le this (by decide))
  have hc : cutD (eI ds) (some (7 * (k : Int))) none = eI (ds.drop (7 * k)) := by
    rw [cut_from _ (by omega), show (7 * (k : Int)).toNat = 7 * k by omega]
    simp
  unfold s5_law
  simp only [ev_set, ev_call, ev_cons, ev_sl, ev_oS, ev_oN, ev_op2, ev_lit, ev_var, ev_nil, List.getElem?_cons_zero, List.getElem?_cons_succ, ok_b, hm, sl_l, hc, h, ev_lift_ok]
  rfl
theorem st6 (hd : ds.length = 60) (ok : DrawOk ds) (g : SeatsOk ss) {k : Nat} (hk : k < 5) : ∃ ls, Good2 ls ss ∧ s6_law (E a0 (.dat (lI ds)) (.dat (.int k)) (.dat (tI ss)) a4 a5 a6 a7 a8 a9 a10 a11 a12 a13 a14 a15) = .ok (.nx (E a0 (.dat (lI ds)) (.dat (.int k)) (.dat (tI ss)) (.dat (tI ls)) a5 a6 a7 a8 a9 a10 a11 a12 a13 a14 a15)) := by
  have i1 : ixD (lI ds) (.int (50 + (k : Int))) = .ok (.int (ds.getD (50 + k) 0)) := ix_l (by omega) (by
    rw [show (50 + (k : Int)).toNat = 50 + k by omega, List.getD_eq_getElem?_getD, List.getElem?_eq_getElem (by omega)]; rfl)
  obtain ⟨m0, m1⟩ := fmod_rng (a := ds.getD (50 + k) 0) (m := 5) (by decide)
  generalize hm : (ds.getD (50 + k) 0).fmod 5 = m at m0 m1
  have gl1 := g.l1
  have gl2 := g.l2
  obtain ⟨n, hn, n1, n2, n3⟩ : ∃ n : Nat, min2 (ss.length : Int) (1 + m) = (n : Int) ∧ 1 ≤ n ∧ n ≤ 5 ∧ n ≤ ss.length := by
    unfold min2
    split
    · exact ⟨(1 + m).toNat, by omega, by omega, by omega, by omega⟩
    · exact ⟨ss.length, rfl, by omega, by omega, by omega⟩
  have hr : range1D [.int (n : Int)] = .ok ((List.range n).map fun (i : Nat) => .int i) := by
    have := range1_ok (n := (n : Int)) (by omega) (by omega)
    simpa using this
  let f : Nat → Int := fun j => 1 + (ds.getD (40 + j) 0).fmod 30
  have hc : dComp (dCallL range1D (dCons (dCall minD (dCons (dCall lenD (dCons (dVar 3) dNil)) (dCons (dOp2 addD (dLit (.int 1)) (dOp2 modD (dCall intD (dCons (dOp2 ixD (dVar 1) (dOp2 addD (dLit (.int 50)) (dVar 2))) dNil)) (dLit (.int 5)))) dNil))) dNil)) [5] (.nm 5) tYesD (dOp2 addD (dLit (.int 1)) (dOp2 modD (dCall intD (dCons (dOp2 ixD (dVar 1) (dOp2 addD (dLit (.int 40)) (dVar 5))) dNil)) (dLit (.int 30)))) (E a0 (.dat (lI ds)) (.dat (.int k)) (.dat (tI ss)) a4 a5 a6 a7 a8 a9 a10 a11 a12 a13 a14 a15) = .ok ((List.range n).map fun (j : Nat) => .int (f j)) := by
    refine dComp_map (xs := List.range n) (fun (i : Nat) => .int i) _ ?_ (by decide) (by simp; omega) fun j hj => ?_
    · simp only [ev_callL, ev_call, ev_cons, ev_op2, ev_var, ev_lit, ev_nil, List.getElem?_cons_zero, List.getElem?_cons_succ, ok_b, add_i, i1, int_i, mod_i (show (5 : Int) ≠ 0 by decide), hm, len_t, List.length_map, min_ii, hn, hr]
    · have hj := List.mem_range.mp hj
      have i2 : ixD (lI ds) (.int (40 + (j : Int))) = .ok (.int (ds.getD (40 + j) 0)) := ix_l (by omega) (by
        rw [show (40 + (j : Int)).toNat = 40 + j by omega, List.getD_eq_getElem?_getD, List.getElem?_eq_getElem (by omega)]; rfl)
      simp only [bodyC, wipeD, ev_nm, ok_b]
      simp [i2, mod_i, f]
  have e1 : ((List.range n).map fun (j : Nat) => PyData.int (f j)) = eI ((List.range n).map f) := by simp
  refine ⟨(List.range n).map f, ⟨by simpa using n1, by simp; omega, by simpa using n3, by omega, fun x hx => ?_, fun x hx => by have := g.sr x hx; omega, (asc_iff _).mpr g.sa⟩, ?_⟩
  · obtain ⟨j, _, rfl⟩ := List.mem_map.mp hx
    obtain ⟨b0, b1⟩ := fmod_rng (a := ds.getD (40 + j) 0) (m := 30) (by decide)
    show 1 ≤ 1 + (ds.getD (40 + j) 0).fmod 30 ∧ 1 + (ds.getD (40 + j) 0).fmod 30 ≤ 100
    omega
  · unfold s6_law
    rw [ev_set, ev_call, ev_cons, ev_lst, hc, e1]
    rfl
theorem st7 (g : Good2 ls ss) {a1 : B} : s7_law (E a0 a1 a2 (.dat (tI ss)) (.dat (tI ls)) a5 a6 a7 a8 a9 a10 a11 a12 a13 a14 a15) = .ok (.nx (E a0 a1 a2 (.dat (tI ss)) (.dat (tI ls)) a5 (.dat (.list (eR (ways ss ls.length)))) a7 a8 a9 a10 a11 a12 a13 a14 a15)) := by
  unfold s7_law
  simp [every_eq ls ss g.l2 g.s2]
theorem st8 (g : Good2 ls ss) {a1 : B} : s8_law (E a0 a1 a2 a3 (.dat (tI ls)) a5 (.dat (.list (eR (ways ss ls.length)))) a7 a8 a9 a10 a11 a12 a13 a14 a15) = .ok (.nx (E a0 a1 a2 a3 (.dat (tI ls)) a5 (.dat (.list (eR (ways ss ls.length)))) (.dat (.list ((ways ss ls.length).map (encT ls)))) a8 a9 a10 a11 a12 a13 a14 a15)) := by
  have hb := ways_bound ss g.s2 g.l2
  have hc : dComp (iD (dVar 6)) [8] (.nm 8) tYesD (dTup (dCons (dCall cf__law_sum (dCons (dVar 4) (dCons (dVar 8) dNil))) (dCons (dVar 8) dNil))) (E a0 a1 a2 a3 (.dat (tI ls)) a5 (.dat (.list (eR (ways ss ls.length)))) a7 a8 a9 a10 a11 a12 a13 a14 a15) = .ok ((ways ss ls.length).map (encT ls)) := by
    refine dComp_map (xs := ways ss ls.length) tI _ (by simp) (by decide) (by omega) fun r hr => ?_
    have ht := lsum_eq ls r g.small.1 (way_small g hr) (by have := g.l2; omega) (by rw [ways_rows hr]; exact Nat.le_refl _)
    simp [bodyC, wipeD, ht]
  unfold s8_law
  rw [ev_set, ev_lst, hc]
  rfl
theorem st9 (g : Good2 ls ss) {a1 : B} : s9_law (E a0 a1 a2 a3 a4 a5 a6 (.dat (.list ((ways ss ls.length).map (encT ls)))) a8 a9 a10 a11 a12 a13 a14 a15) = .ok (.nx (E a0 a1 a2 a3 a4 a5 a6 (.dat (.list ((ways ss ls.length).map (encT ls)))) a8 (.dat (enc3 ls (best ls (ways ss ls.length)))) a10 a11 a12 a13 a14 a15)) := by
  have hb := ways_bound ss g.s2 g.l2
  have hc : dComp (iD (dVar 7)) [10, 8] (.tp [(.nm 10), (.nm 8)]) tYesD (dTup (dCons (dCall maxD (dCons (dVar 10) (dCons (dOp2 subD (dLit (.int 0)) (dVar 10)) dNil))) (dCons (dVar 10) (dCons (dVar 8) dNil)))) (E a0 a1 a2 a3 a4 a5 a6 (.dat (.list ((ways ss ls.length).map (encT ls)))) a8 a9 a10 a11 a12 a13 a14 a15) = .ok ((ways ss ls.length).map (enc3 ls)) := by
    refine dComp_map (xs := ways ss ls.length) (encT ls) _ (by simp) (by decide) (by omega) fun r hr => ?_
    simp [bodyC, wipeD]
  unfold s9_law
  simp only [ev_set, ev_call, ev_cons, ev_lst, hc, ok_m, ok_b, ev_nil, min_enc3 ls (ways_ne g), ev_lift_ok]
  rfl
theorem sh_encT (ls r : List Int) : SeqAt.shaped (encT ls r) = true := by
  simp [SeqAt.shaped, PyData.canLay0, PyData.canLayAll0, PyData.depth, PyData.depthAll, canLay_ints, PySem.W.depth_ints]
theorem eqv_encT (ls r : List Int) : PyData.eqv (encT ls r) (encT ls r) = true := PySem.W.eqv_refl_alike _ (by
  have := alike_tI r r
  simp [PySem.W.alike, PySem.W.alikeAll] at this ⊢
  exact this)
theorem st10 (g : Good2 ls ss) {a1 : B} : s10_law (E a0 a1 a2 (.dat (tI ss)) (.dat (tI ls)) a5 a6 (.dat (.list ((ways ss ls.length).map (encT ls)))) a8 (.dat (enc3 ls (best ls (ways ss ls.length)))) a10 a11 a12 a13 a14 a15) = .ok (.nx (E a0 a1 a2 (.dat (tI ss)) (.dat (tI ls)) a5 a6 (.dat (.list ((ways ss ls.length).map (encT ls)))) a8 (.dat (enc3 ls (best ls (ways ss ls.length)))) a10 a11 a12 a13 a14 a15)) := by
  have hb := ways_bound ss g.s2 g.l2
  have hc : dComp (iD (dVar 7)) [10, 8] (.tp [(.nm 10), (.nm 8)]) (tVal (dOp2 eqD (dVar 10) (dLit (.int 0)))) (dVar 10) (E a0 a1 a2 (.dat (tI ss)) (.dat (tI ls)) a5 a6 (.dat (.list ((ways ss ls.length).map (encT ls)))) a8 (.dat (enc3 ls (best ls (ways ss ls.length)))) a10 a11 a12 a13 a14 a15) = .ok ((ways ss ls.length).filterMap fun r => if tiltOf ls r = 0 then some (.int (tiltOf ls r)) else none) := by
    refine dComp_eq (xs := ways ss ls.length) (encT ls) _ (by simp) (by decide) (by omega) fun r hr => ?_
    by_cases h0 : tiltOf ls r = 0 <;> simp [bodyC, wipeD, h0]
  have hl : ∀ rows : List (List Int), (rows.filterMap fun r => if tiltOf ls r = 0 then some (PyData.int (tiltOf ls r)) else none).length = rows.countP fun r => decide (tiltOf ls r = 0) := by
    intro rows
    induction rows with
    | nil => rfl
    | cons r rows ih =>
      rw [List.filterMap_cons, List.countP_cons]
      by_cases h0 : tiltOf ls r = 0 <;> simp [h0, ih]
  have hsl : slD (enc3 ls (best ls (ways ss ls.length))) (some 1) none = .ok (encT ls (best ls (ways ss ls.length))) := by
    rw [sl_t, cut_from _ (by decide)]
    rfl
  have hne := ne_ok (sh_encT ls (best ls (ways ss ls.length))) (sh_encT ls (best ls (ways ss ls.length)))
  rw [eqv_encT] at hne
  unfold s10_law
  simp only [ev_sIf, ev_or, ev_val, ev_op2, ev_call, ev_cons, ev_nil, ev_var, ev_sl, ev_oS, ev_oN, ev_lit, List.getElem?_cons_zero, List.getElem?_cons_succ, ok_b, least_eq g, count_eq g, hsl, hne, ev_lst, hc, ok_m, len_l, hl, ne_i, ev_bool, ev_lift_ok, decide_true, Bool.not_true, Bool.false_eq_true, if_false, ev_skip]
theorem atI_last' {α : Type} {xs : List α} (h : xs ≠ []) : ∃ x, x ∈ xs ∧ atI xs (-1) = some x := by
  refine ⟨xs.getLast h, List.getLast_mem h, ?_⟩
  have e := List.dropLast_concat_getLast h
  have := atI_last xs.dropLast (xs.getLast h)
  rw [e] at this
  exact this
theorem ix_rows {rows : List (List Int)} {k : Int} {r : List Int} (h : atI rows k = some r) : ixD (.list (eR rows)) (.int k) = .ok (tI r) := by
  have : atI (eR rows) k = some (tI r) := by
    unfold atI at h ⊢
    rw [List.length_map]
    cases e : ixN rows.length k with
    | none => rw [e] at h; cases h
    | some j =>
      rw [e] at h
      show (eR rows)[j]? = _
      have h : rows[j]? = some r := h
      rw [List.getElem?_map, h]; rfl
  show (match atI (eR rows) k with | some x => (.ok x : Rs PyData) | none => stuck) = _
  rw [this]
theorem st11 (g : Good2 ls ss) (hd : ds.length = 60) {k : Nat} (hk : k < 5) : ∃ b, s11_law (E a0 (.dat (lI ds)) (.dat (.int k)) (.dat (tI ss)) (.dat (tI ls)) a5 (.dat (.list (eR (ways ss ls.length)))) a7 a8 a9 a10 a11 a12 a13 a14 a15) = .ok (.nx (E a0 (.dat (lI ds)) (.dat (.int k)) (.dat (tI ss)) (.dat (tI ls)) a5 (.dat (.list (eR (ways ss ls.length)))) a7 b a9 a10 a11 a12 a13 a14 a15)) := by
  have hne := ways_ne g
  have hpos : 0 < (ways ss ls.length).length := List.length_pos_iff.mpr hne
  have h0 : (ways ss ls.length)[0]? = some (ways ss ls.length)[0] := List.getElem?_eq_getElem hpos
  have m0 : (ways ss ls.length)[0] ∈ ways ss ls.length := List.getElem_mem hpos
  generalize (ways ss ls.length)[0] = r0 at h0 m0
  obtain ⟨r1, m1, h1⟩ := atI_last' hne
  have i1 : ixD (lI ds) (.int (30 + (k : Int))) = .ok (.int (ds.getD (30 + k) 0)) := ix_l (by omega) (by
    rw [show (30 + (k : Int)).toNat = 30 + k by omega, List.getD_eq_getElem?_getD, List.getElem?_eq_getElem (by omega)]; rfl)
  obtain ⟨q0, q1⟩ := fmod_rng (a := ds.getD (30 + k) 0) (m := ((ways ss ls.length).length : Int)) (by omega)
  generalize hq : (ds.getD (30 + k) 0).fmod ((ways ss ls.length).length : Int) = q at q0 q1
  have hlt : q.toNat < (ways ss ls.length).length := by omega
  have h2 : atI (ways ss ls.length) q = some (ways ss ls.length)[q.toNat] := atI_nat' q0 (List.getElem?_eq_getElem hlt)
  have m2 : (ways ss ls.length)[q.toNat] ∈ ways ss ls.length := List.getElem_mem hlt
  generalize (ways ss ls.length)[q.toNat] = r2 at h2 m2
  have x0 := ix_rows (atI_nat' (k := 0) (by decide) h0)
  have x1 := ix_rows h1
  have x2 := ix_rows h2
  have hi : iD (dTup (dCons (dOp2 ixD (dVar 6) (dLit (.int 0))) (dCons (dOp2 ixD (dVar 6) (dOp1 negD (dLit (.int 1)))) (dCons (dOp2 ixD (dVar 6) (dOp2 modD (dCall intD (dCons (dOp2 ixD (dVar 1) (dOp2 addD (dLit (.int 30)) (dVar 2))) dNil)) (dCall lenD (dCons (dVar 6) dNil)))) dNil)))) (E a0 (.dat (lI ds)) (.dat (.int k)) (.dat (tI ss)) (.dat (tI ls)) a5 (.dat (.list (eR (ways ss ls.length)))) a7 a8 a9 a10 a11 a12 a13 a14 a15) = .ok ([r0, r1, r2].map tI) := by
    have hn0 : ((ways ss ls.length).length : Int) ≠ 0 := by omega
    simp only [ev_iD, ev_tup, ev_cons, ev_op2, ev_op1, ev_var, ev_lit, ev_call, ev_nil, List.getElem?_cons_zero, List.getElem?_cons_succ, ok_b, x0, neg_i, x1, add_i, i1, int_i, len_l, List.length_map, mod_i hn0, hq, x2, List.length_cons, List.length_nil, ok3, if_true, it_t]
    rfl
  obtain ⟨ρ', hf, b, rfl⟩ := forD_ix (t := .nm 8) (b := s1_law) tI (fun _ ρ => ∃ b, ρ = (E a0 (.dat (lI ds)) (.dat (.int k)) (.dat (tI ss)) (.dat (tI ls)) a5 (.dat (.list (eR (ways ss ls.length)))) a7 b a9 a10 a11 a12 a13 a14 a15)) [r0, r1, r2] (ρ := E a0 (.dat (lI ds)) (.dat (.int k)) (.dat (tI ss)) (.dat (tI ls)) a5 (.dat (.list (eR (ways ss ls.length)))) a7 a8 a9 a10 a11 a12 a13 a14 a15) (by
    rintro i r ρ hr _ ⟨b, rfl⟩
    have hm : r ∈ ways ss ls.length := by
      have := List.mem_of_getElem? hr
      simp at this
      rcases this with rfl | rfl | rfl <;> assumption
    have ht := tiltof_eq g hm
    have hs := lsum_eq ls r g.small.1 (way_small g hm) (by have := g.l2; omega) (by rw [ways_rows hm]; exact Nat.le_refl _)
    refine ⟨E a0 (.dat (lI ds)) (.dat (.int k)) (.dat (tI ss)) (.dat (tI ls)) a5 (.dat (.list (eR (ways ss ls.length)))) a7 (.dat (tI r)) a9 a10 a11 a12 a13 a14 a15, .inl ?_, .dat (tI r), rfl⟩
    rw [ev_nm, ok_b]
    unfold s1_law
    simp only [E, List.set_cons_succ, List.set_cons_zero, ev_sIf, ev_val, ev_op2, ev_call, ev_cons, ev_nil, ev_var, List.getElem?_cons_zero, List.getElem?_cons_succ, ok_b, ht, hs, ne_i, ev_bool, ev_lift_ok, decide_true, Bool.not_true, Bool.false_eq_true, if_false, ev_skip]) ⟨_, rfl⟩
  exact ⟨b, ev_for_eq hi hf⟩
theorem rev_st (ss : List Int) : stD (tI ss) (-1) = .ok (tI ss.reverse) := by
  show (if (-1 : Int) ≠ 0 ∧ (-1 : Int) ≠ 1 then Except.ok (PyData.tuple (stepL (eI ss) (-1))) else stuck) = _
  rw [if_pos (by decide), stepL_rev]
  simp
theorem st12 (hl : ss.length ≤ 8) {a1 : B} : s12_law (E a0 a1 a2 (.dat (tI ss)) a4 a5 a6 a7 a8 a9 a10 a11 a12 a13 a14 a15) = .ok (.nx (E a0 a1 a2 (.dat (tI ss)) a4 a5 a6 a7 a8 a9 a10 (.dat (tI (mir ss))) a12 a13 a14 a15)) := by
  have hc : dComp (iD (dSt stD (dVar 3) (oSome (dOp1 negD (dLit (.int 1)))))) [12] (.nm 12) tYesD (dOp2 subD (dLit (.int 0)) (dVar 12)) (E a0 a1 a2 (.dat (tI ss)) a4 a5 a6 a7 a8 a9 a10 a11 a12 a13 a14 a15) = .ok (ss.reverse.map fun x => .int (0 - x)) := by
    refine dComp_map (xs := ss.reverse) PyData.int _ ?_ (by decide) (by simp; omega) fun x hx => ?_
    · simp only [ev_iD, ev_st, ev_var, ev_oS, ev_op1, ev_lit, neg_i, List.getElem?_cons_zero, List.getElem?_cons_succ, ok_b, rev_st, it_t]
    · simp [bodyC, wipeD]
  have e1 : (ss.reverse.map fun x => PyData.int (0 - x)) = eI (mir ss) := by simp [mir]
  unfold s12_law
  simp only [ev_set, ev_call, ev_cons, ev_lst, hc, ok_m, ok_b, ev_nil, e1, tup_l, ev_lift_ok]
  rfl
theorem st13 (g : Good2 ls ss) {a1 : B} : s13_law (E a0 a1 a2 a3 (.dat (tI ls)) a5 a6 a7 a8 a9 a10 (.dat (tI (mir ss))) a12 a13 a14 a15) = .ok (.nx (E a0 a1 a2 a3 (.dat (tI ls)) a5 a6 a7 a8 a9 a10 (.dat (tI (mir ss))) a12 (.dat (encT ls (best ls (ways (mir ss) ls.length)))) a14 a15)) := by
  unfold s13_law
  simp only [ev_set, ev_call, ev_cons, ev_var, ev_nil, List.getElem?_cons_zero, List.getElem?_cons_succ, ok_b, least_eq g.mirror, ev_lift_ok]
  rfl
theorem ix0 (x : PyData) (xs : List PyData) : ixD (.tuple (x :: xs)) (.int 0) = .ok x := by
  show (match atI (x :: xs) (0 : Int) with | some x => (.ok x : Rs PyData) | none => stuck) = _
  rw [atI_nat' (x := x) (by decide) rfl]
theorem st14 (g : Good2 ls ss) {a1 : B} : s14_law (E a0 a1 a2 (.dat (tI ss)) (.dat (tI ls)) a5 (.dat (.list (eR (ways ss ls.length)))) (.dat (.list ((ways ss ls.length).map (encT ls)))) a8 (.dat (enc3 ls (best ls (ways ss ls.length)))) a10 (.dat (tI (mir ss))) a12 (.dat (encT ls (best ls (ways (mir ss) ls.length)))) a14 a15)
    = .ok (.nx (E a0 a1 a2 (.dat (tI ss)) (.dat (tI ls)) a5 (.dat (.list (eR (ways ss ls.length)))) (.dat (.list ((ways ss ls.length).map (encT ls)))) a8 (.dat (enc3 ls (best ls (ways ss ls.length)))) a10 (.dat (tI (mir ss))) a12 (.dat (encT ls (best ls (ways (mir ss) ls.length)))) a14 a15)) := by
  have hne := ways_ne g
  have hpos : 0 < (ways ss ls.length).length := List.length_pos_iff.mpr hne
  have h0 : (ways ss ls.length)[0]? = some (ways ss ls.length)[0] := List.getElem?_eq_getElem hpos
  have m0 : (ways ss ls.length)[0] ∈ ways ss ls.length := List.getElem_mem hpos
  generalize (ways ss ls.length)[0] = r0 at h0 m0
  have x0 := ix_rows (atI_nat' (k := 0) (by decide) h0)
  have hb : max2 (tiltOf ls (best ls (ways (mir ss) ls.length))) (0 - tiltOf ls (best ls (ways (mir ss) ls.length))) = max2 (tiltOf ls (best ls (ways ss ls.length))) (0 - tiltOf ls (best ls (ways ss ls.length))) := best_mir ls ls.length hne (ways_ne g.mirror)
  have hcm := count_mir ((asc_iff ss).mp g.sa) ls ls.length
  have hn0 : neg r0 ∈ ways (mir ss) ls.length := (ways_mir ss _ _).mpr (by rw [neg_neg]; exact m0)
  have ht := tiltof_eq g.mirror hn0
  have hl0 := ways_rows m0
  have hc : dComp (iD (dOp2 ixD (dVar 6) (dLit (.int 0)))) [12] (.nm 12) tYesD (dOp2 subD (dLit (.int 0)) (dVar 12)) (E a0 a1 a2 (.dat (tI ss)) (.dat (tI ls)) a5 (.dat (.list (eR (ways ss ls.length)))) (.dat (.list ((ways ss ls.length).map (encT ls)))) a8 (.dat (enc3 ls (best ls (ways ss ls.length)))) a10 (.dat (tI (mir ss))) a12 (.dat (encT ls (best ls (ways (mir ss) ls.length)))) a14 a15) = .ok (r0.map fun x => .int (0 - x)) := by
    refine dComp_map (xs := r0) PyData.int _ ?_ (by decide) (by have := g.l2; omega) fun x hx => ?_
    · simp only [ev_iD, ev_op2, ev_var, ev_lit, List.getElem?_cons_zero, List.getElem?_cons_succ, ok_b, x0, it_t]
    · simp [bodyC, wipeD]
  have e1 : (r0.map fun x => PyData.int (0 - x)) = eI (neg r0) := by simp [neg]
  have x7 : ixD (.list ((ways ss ls.length).map (encT ls))) (.int 0) = .ok (encT ls r0) := by
    show (match atI ((ways ss ls.length).map (encT ls)) (0 : Int) with | some x => (.ok x : Rs PyData) | none => stuck) = _
    rw [atI_nat' (x := encT ls r0) (by decide) (by
      show ((ways ss ls.length).map (encT ls))[0]? = _
      rw [List.getElem?_map, h0]; rfl)]
  unfold s14_law
  simp only [ev_sIf, ev_or, ev_val, ev_op2, ev_call, ev_cons, ev_nil, ev_var, ev_lit, List.getElem?_cons_zero, List.getElem?_cons_succ, ok_b, ix0, sub_i, max_ii, hb, ne_i, ev_bool, decide_true, Bool.not_true, Bool.false_eq_true, if_false, count_eq g, count_eq g.mirror, hcm, ev_lst, hc, ok_m, e1, tup_l, ht, x7, tilt_neg, ev_lift_ok, ev_skip]
end Nk52

set_option Elab.async false
set_option linter.all false
set_option maxRecDepth 100000
set_option maxHeartbeats 4000000
namespace Nk52
open PySem PySem.Spec PyProof.Rows L2 Den
variable {ls ss ds : List Int} {a0 a1 a2 a3 a4 a5 a6 a7 a8 a9 a10 a11 a12 a13 a14 a15 : B}
theorem cut_m1 {α : Type} {xs : List α} (h : xs ≠ []) : Den.cutD xs (some (-1)) none = [xs.getLast h] := by
  unfold Den.cutD
  have hp : 0 < xs.length := List.length_pos_iff.mpr h
  simp only [HT.sIx]
  rw [if_pos (by decide)]
  have e : ((-1 : Int) + (xs.length : Int)).toNat = xs.length - 1 := by omega
  rw [e]
  obtain ⟨ys, y, rfl⟩ : ∃ ys y, xs = ys ++ [y] := ⟨xs.dropLast, xs.getLast h, (List.dropLast_concat_getLast h).symm⟩
  simp
theorem rep_map {α : Type} (x : PyData) : ∀ n : Nat, ((List.range n).map fun (_ : Nat) => x) = List.replicate n x := fun n => by
  rw [List.map_const']
  simp
/-- [word] * n -/
theorem mul_word (x : PyData) (n : Nat) (h : n ≤ 1000) : mulD (.list [x]) (.int n) = .ok (.list (List.replicate n x)) := by
  simp only [mulD]
  rw [if_pos ⟨by omega, by omega, by rw [sizeLine_eq]; simp; omega⟩, Int.toNat_natCast]
  congr 2
  induction n with
  | zero => rfl
  | succ n ih => rw [List.replicate_succ, List.flatten_cons, ih (by omega), List.replicate_succ]; rfl
theorem ne_seats : neD (.list (List.replicate 5 (.str "seats"))) (.list (List.replicate 5 (.str "seats"))) = .ok (.bool false) := by
  rw [ne_ok (by decide +kernel) (by decide +kernel)]
  rfl
theorem ne_loads : neD (.list (List.replicate 5 (.str "loads"))) (.list (List.replicate 5 (.str "loads"))) = .ok (.bool false) := by
  rw [ne_ok (by decide +kernel) (by decide +kernel)]
  rfl
theorem ne_stow : neD (.list (List.replicate 3 (.str "stowing"))) (.list (List.replicate 3 (.str "stowing"))) = .ok (.bool false) := by
  rw [ne_ok (by decide +kernel) (by decide +kernel)]
  rfl
theorem rng_n (n : Nat) (h : n ≤ 1000) : range1D [.int (n : Int)] = .ok ((List.range n).map fun (i : Nat) => .int i) := by
  have := range1_ok (n := (n : Int)) (by omega) (by omega)
  simpa using this
/-- wrong seats -/
theorem wrong15 {w : PyData} (h : seatsOk w = false) : ((Tg.nm 14).d (E a0 a1 a2 a3 (.dat (tI ls)) a5 a6 a7 a8 a9 a10 a11 a12 a13 a14 a15) w >>= fun ρ1 => s2_law ρ1) = .ok (.nx (E a0 a1 a2 a3 (.dat (tI ls)) a5 a6 a7 a8 a9 a10 a11 a12 a13 (.dat w) a15)) := by
  rw [ev_nm, ok_b]
  have hc : dComp (dCallL range1D (dCons (dLit (.int 5)) dNil)) [15] (.nm 15) tYesD (dCall cf__law_error (dCons (dVar 15) (dCons (dVar 4) (dCons (dVar 14) (dCons (dLit .none) dNil))))) (E a0 a1 a2 a3 (.dat (tI ls)) a5 a6 a7 a8 a9 a10 a11 a12 a13 (.dat w) a15) = .ok ((List.range 5).map fun (_ : Nat) => .str "seats") := by
    refine dComp_map (xs := List.range 5) (fun (i : Nat) => .int i) _ ?_ (by decide) (by simp) fun j hj => ?_
    · have := rng_n 5 (by decide)
      simp only [ev_callL, ev_cons, ev_lit, ev_nil, ok_b]
      exact this
    · have := err_seats j (List.mem_range.mp hj) (tI ls) w .none h
      simp [bodyC, wipeD, this]
  unfold s2_law
  show sIf _ _ _ (E a0 a1 a2 a3 (.dat (tI ls)) a5 a6 a7 a8 a9 a10 a11 a12 a13 (.dat w) a15) = _
  have hm : mulD (.list [.str "seats"]) (.int 5) = _ := mul_word (.str "seats") 5 (by decide)
  simp only [ev_sIf, ev_val, ev_op2, ev_lst, hc, rep_map (α := Nat), ok_m, ok_b, ev_list, ev_cons, ev_lit, ev_nil, List.length_cons, List.length_nil, Nat.zero_add, ok1, if_true, hm, ne_seats, ev_bool, ev_lift_ok, Bool.false_eq_true, if_false, ev_skip]
/-- the menu of wrong seats -/
def menu15 (ss : List Int) : List PyData := [.none, lI ss, .tuple [], (if 1 < ss.length then tI ss.reverse else .int 7), .tuple (eI ss ++ Den.cutD (eI ss) (some (-1)) none), .tuple ([.int (-21)] ++ eI ss), .tuple (eI ss ++ [.int 21]), .tuple [.bool true], .tuple [.none], .tuple (rngL 0 9), .int 7]
theorem wholes_no {ds : List PyData} {lo hi : Int} {d : PyData} (hd : d ∈ ds) (h : isWhole d lo hi = false) : wholes ds lo hi = false := by
  unfold wholes
  rw [List.all_eq_false]
  exact ⟨d, hd, by simp [h]⟩
theorem seats_no {ds : List PyData} (h : wholes ds (-20) 20 = false) : seatsOk (.tuple ds) = false := by
  simp [seatsOk, h]
theorem menu15_bad (g : Good2 ls ss) : ∀ w ∈ menu15 ss, seatsOk w = false := by
  have hp := (asc_iff ss).mp g.sa
  have hl : 1 ≤ ss.length := Nat.le_trans g.l1 g.l3
  have hne : ss ≠ [] := by intro e; rw [e] at hl; simp at hl
  intro w hw
  simp only [menu15, List.mem_cons, List.not_mem_nil, or_false] at hw
  rcases hw with rfl | rfl | rfl | rfl | rfl | rfl | rfl | rfl | rfl | rfl | rfl
  · rfl
  · rfl
  · rfl
  · split
    · rename_i h
      have : asc ss.reverse = false := by
        rw [Bool.eq_false_iff]
        intro ha
        have hr := (asc_iff _).mp ha
        rw [List.pairwise_reverse] at hr
        match ss, hp, hr, h with
        | a :: b :: r, hp, hr, _ =>
          have h1 := (List.pairwise_cons.mp hp).1 b (by simp)
          have h2 := (List.pairwise_cons.mp hr).1 b (by simp)
          omega
      simp only [seatsOk, vals_eI, this, Bool.and_false]
    · rfl
  · have hne' : eI ss ≠ [] := by simpa using hne
    rw [cut_m1 hne', List.getLast_map]
    have e : eI ss ++ [PyData.int (ss.getLast hne)] = eI (ss ++ [ss.getLast hne]) := by simp
    rw [e]
    have : asc (ss ++ [ss.getLast hne]) = false := by
      rw [Bool.eq_false_iff]
      intro ha
      have hr := (asc_iff _).mp ha
      rw [List.pairwise_append] at hr
      have := hr.2.2 _ (List.getLast_mem hne) (ss.getLast hne) (by simp)
      omega
    simp only [seatsOk, vals_eI, this, Bool.and_false]
  · exact seats_no (wholes_no (d := .int (-21)) (by simp) (by decide))
  · exact seats_no (wholes_no (d := .int 21) (by simp) (by decide))
  · rfl
  · rfl
  · have : (rngL 0 9).length = 9 := by simp [rngL]
    simp [seatsOk, this]
  · rfl
theorem st15 (g : Good2 ls ss) : ∃ b, s15_law (E a0 a1 a2 (.dat (tI ss)) (.dat (tI ls)) a5 a6 a7 a8 a9 a10 a11 a12 a13 a14 a15) = .ok (.nx (E a0 a1 a2 (.dat (tI ss)) (.dat (tI ls)) a5 a6 a7 a8 a9 a10 a11 a12 a13 b a15)) := by
  obtain ⟨ρ', hf, b, rfl⟩ := forD_ix (t := .nm 14) (b := s2_law) (fun d => d) (fun _ ρ => ∃ b, ρ = (E a0 a1 a2 (.dat (tI ss)) (.dat (tI ls)) a5 a6 a7 a8 a9 a10 a11 a12 a13 b a15)) (menu15 ss) (ρ := E a0 a1 a2 (.dat (tI ss)) (.dat (tI ls)) a5 a6 a7 a8 a9 a10 a11 a12 a13 a14 a15) (by
    rintro i w ρ hr _ ⟨b, rfl⟩
    exact ⟨_, .inl (wrong15 (menu15_bad g w (List.mem_of_getElem? hr))), .dat w, rfl⟩) ⟨_, rfl⟩
  rw [List.map_id'] at hf
  refine ⟨b, ev_for_eq ?_ hf⟩
  have l8 := g.s2
  have hr9 : rgOk 0 9 = true := by decide
  have p1 : addD (.tuple (eI ss)) (.tuple (Den.cutD (eI ss) (some (-1)) none)) = .ok (.tuple (eI ss ++ Den.cutD (eI ss) (some (-1)) none)) := add_tt (by
    have hc : (Den.cutD (eI ss) (some (-1)) none).length ≤ ss.length := by
      unfold Den.cutD; rw [List.length_take, List.length_drop, List.length_map]; omega
    rw [List.length_map]; omega)
  have p2 : addD (.tuple [.int (-21)]) (.tuple (eI ss)) = .ok (.tuple ([.int (-21)] ++ eI ss)) := add_tt (by simp; omega)
  have p3 : addD (.tuple (eI ss)) (.tuple [.int 21]) = .ok (.tuple (eI ss ++ [.int 21])) := add_tt (by simp; omega)
  have ok11 : okLen 11 = true := okLen_of (by omega)
  have hrg : dLstRg (dRange1 (dLit (.int 9))) (E a0 a1 a2 (.dat (tI ss)) (.dat (tI ls)) a5 a6 a7 a8 a9 a10 a11 a12 a13 a14 a15) = .ok (rngL 0 9) := by
    simp only [dLstRg, dRange1, ev_lit, ok_b, hr9, if_true]
  by_cases h1 : 1 < ss.length
  · have h1' : (1 : Int) < ss.length := by omega
    simp only [ev_iD, ev_lst, ev_list, ev_cons, ev_lit, ev_callL, ev_call, ev_var, ev_nil, ev_tup, ev_if, ev_val, ev_op2, ev_op1, ev_st, ev_sl, ev_oS, ev_oN, List.getElem?_cons_zero, List.getElem?_cons_succ, ok_b, ok_m, lst_t, len_t, gt_i, ev_bool, List.length_map, List.length_nil, List.length_cons, Nat.zero_add, Nat.reduceAdd, ok0, ok1, if_true, neg_i, rev_st, sl_t, p1, p2, p3, tup_l, ok11, it_l, h1', decide_true, hrg]
    simp [menu15, h1]
  · have h1' : ¬ (1 : Int) < ss.length := by omega
    simp only [ev_iD, ev_lst, ev_list, ev_cons, ev_lit, ev_callL, ev_call, ev_var, ev_nil, ev_tup, ev_if, ev_val, ev_op2, ev_op1, ev_st, ev_sl, ev_oS, ev_oN, List.getElem?_cons_zero, List.getElem?_cons_succ, ok_b, ok_m, lst_t, len_t, gt_i, ev_bool, List.length_map, List.length_nil, List.length_cons, Nat.zero_add, Nat.reduceAdd, ok0, ok1, if_true, neg_i, rev_st, sl_t, p1, p2, p3, tup_l, ok11, it_l, h1', decide_false, Bool.false_eq_true, if_false, hrg]
    simp [menu15, h1]
/-- wrong loads -/
theorem wrong16 (hs : seatsOk (tI ss) = true) {w : PyData} (h : loadsOk ss.length w = false) : ((Tg.nm 14).d (E a0 a1 a2 (.dat (tI ss)) a4 a5 a6 a7 a8 a9 a10 a11 a12 a13 a14 a15) w >>= fun ρ1 => s3_law ρ1) = .ok (.nx (E a0 a1 a2 (.dat (tI ss)) a4 a5 a6 a7 a8 a9 a10 a11 a12 a13 (.dat w) a15)) := by
  rw [ev_nm, ok_b]
  have hc : dComp (dCallL range1D (dCons (dLit (.int 5)) dNil)) [15] (.nm 15) tYesD (dCall cf__law_error (dCons (dVar 15) (dCons (dVar 14) (dCons (dVar 3) (dCons (dLit .none) dNil))))) (E a0 a1 a2 (.dat (tI ss)) a4 a5 a6 a7 a8 a9 a10 a11 a12 a13 (.dat w) a15) = .ok ((List.range 5).map fun (_ : Nat) => .str "loads") := by
    refine dComp_map (xs := List.range 5) (fun (i : Nat) => .int i) _ ?_ (by decide) (by simp) fun j hj => ?_
    · have := rng_n 5 (by decide)
      simp only [ev_callL, ev_cons, ev_lit, ev_nil, ok_b]
      exact this
    · have := err_loads j (List.mem_range.mp hj) w .none hs rfl h
      simp [bodyC, wipeD, this]
  unfold s3_law
  show sIf _ _ _ (E a0 a1 a2 (.dat (tI ss)) a4 a5 a6 a7 a8 a9 a10 a11 a12 a13 (.dat w) a15) = _
  have hm : mulD (.list [.str "loads"]) (.int 5) = _ := mul_word (.str "loads") 5 (by decide)
  simp only [ev_sIf, ev_val, ev_op2, ev_lst, hc, rep_map (α := Nat), ok_m, ok_b, ev_list, ev_cons, ev_lit, ev_nil, List.length_cons, List.length_nil, Nat.zero_add, ok1, if_true, hm, ne_loads, ev_bool, ev_lift_ok, Bool.false_eq_true, if_false, ev_skip]
def menu16 (ls ss : List Int) : List PyData := [.none, lI ls, .tuple [], .tuple ([.int 0] ++ eI (ls.drop 1)), .tuple ([.int 101] ++ eI (ls.drop 1)), .tuple ([.bool true] ++ eI (ls.drop 1)), .tuple ([.str "1"] ++ eI (ls.drop 1)), .tuple (List.replicate (ss.length + 1) [PyData.int 1]).flatten, .tuple (List.replicate 7 [PyData.int 1]).flatten, .int 7]
theorem loads_no {ds : List PyData} {n : Nat} (h : wholes ds 1 100 = false) : loadsOk n (.tuple ds) = false := by
  simp [loadsOk, h]
theorem flat_rep (x : PyData) : ∀ n, (List.replicate n [x]).flatten.length = n
  | 0 => rfl
  | n + 1 => by rw [List.replicate_succ, List.flatten_cons, List.length_append, flat_rep x n]; simp; omega
theorem menu16_bad (g : Good2 ls ss) : ∀ w ∈ menu16 ls ss, loadsOk ss.length w = false := by
  intro w hw
  simp only [menu16, List.mem_cons, List.not_mem_nil, or_false] at hw
  rcases hw with rfl | rfl | rfl | rfl | rfl | rfl | rfl | rfl | rfl | rfl
  · rfl
  · rfl
  · simp [loadsOk]
  · exact loads_no (wholes_no (d := .int 0) (by simp) (by decide))
  · exact loads_no (wholes_no (d := .int 101) (by simp) (by decide))
  · exact loads_no (wholes_no (d := .bool true) (by simp) (by decide))
  · exact loads_no (wholes_no (d := .str "1") (by simp) rfl)
  · have : ¬ (1 ≤ (List.replicate (ss.length + 1) [PyData.int 1]).flatten.length ∧ (List.replicate (ss.length + 1) [PyData.int 1]).flatten.length ≤ min 6 ss.length) := by rw [flat_rep]; omega
    simp only [loadsOk, decide_eq_false this, Bool.false_and]
  · have : ¬ (1 ≤ (List.replicate 7 [PyData.int 1]).flatten.length ∧ (List.replicate 7 [PyData.int 1]).flatten.length ≤ min 6 ss.length) := by rw [flat_rep]; omega
    simp only [loadsOk, decide_eq_false this, Bool.false_and]
  · rfl
theorem mul_one {n : Nat} (h : 2 ≤ n) (h2 : n ≤ 1000) (x : PyData) : mulD (.tuple [x]) (.int n) = .ok (.tuple (List.replicate n [x]).flatten) := by
  simp only [mulD]
  rw [if_pos ⟨by simp, by omega, by omega, by simp⟩, Int.toNat_natCast]
theorem drop1 (ls : List Int) : Den.cutD (eI ls) (some 1) none = eI (ls.drop 1) := by
  rw [cut_from _ (by decide)]
  simp
theorem st16 (g : Good2 ls ss) : ∃ b, s16_law (E a0 a1 a2 (.dat (tI ss)) (.dat (tI ls)) a5 a6 a7 a8 a9 a10 a11 a12 a13 a14 a15) = .ok (.nx (E a0 a1 a2 (.dat (tI ss)) (.dat (tI ls)) a5 a6 a7 a8 a9 a10 a11 a12 a13 b a15)) := by
  obtain ⟨ρ', hf, b, rfl⟩ := forD_ix (t := .nm 14) (b := s3_law) (fun d => d) (fun _ ρ => ∃ b, ρ = (E a0 a1 a2 (.dat (tI ss)) (.dat (tI ls)) a5 a6 a7 a8 a9 a10 a11 a12 a13 b a15)) (menu16 ls ss) (ρ := E a0 a1 a2 (.dat (tI ss)) (.dat (tI ls)) a5 a6 a7 a8 a9 a10 a11 a12 a13 a14 a15) (by
    rintro i w ρ hr _ ⟨b, rfl⟩
    exact ⟨_, .inl (wrong16 g.seats (menu16_bad g w (List.mem_of_getElem? hr))), .dat w, rfl⟩) ⟨_, rfl⟩
  rw [List.map_id'] at hf
  refine ⟨b, ev_for_eq ?_ hf⟩
  have l1 := g.l1; have l2 := g.l2; have l3 := g.l3; have l8 := g.s2
  have p1 : ∀ x : PyData, addD (.tuple [x]) (.tuple (eI (ls.drop 1))) = .ok (.tuple ([x] ++ eI (ls.drop 1))) := fun x => add_tt (by simp; omega)
  have p2 : mulD (.tuple [.int 1]) (.int ((ss.length : Int) + 1)) = .ok (.tuple (List.replicate (ss.length + 1) [PyData.int 1]).flatten) := mul_one (n := ss.length + 1) (by omega) (by omega) _
  have p3 : mulD (.tuple [.int 1]) (.int 7) = .ok (.tuple (List.replicate 7 [PyData.int 1]).flatten) := mul_one (n := 7) (by decide) (by decide) _
  have ok10 : okLen 10 = true := okLen_of (by omega)
  simp only [ev_iD, ev_lst, ev_list, ev_cons, ev_lit, ev_callL, ev_call, ev_var, ev_nil, ev_tup, ev_op2, ev_sl, ev_oS, ev_oN, List.getElem?_cons_zero, List.getElem?_cons_succ, ok_b, ok_m, lst_t, len_t, List.length_map, List.length_nil, List.length_cons, Nat.zero_add, ok0, ok1, if_true, sl_t, drop1, p1, add_i, p2, p3, Nat.reduceAdd, ok10, it_l]
  rfl
theorem st17 (g : Good2 ls ss) : ∃ r, r ∈ ways ss ls.length ∧ s17_law (E a0 a1 a2 a3 a4 a5 (.dat (.list (eR (ways ss ls.length)))) a7 a8 a9 a10 a11 a12 a13 a14 a15) = .ok (.nx (E a0 a1 a2 a3 a4 a5 (.dat (.list (eR (ways ss ls.length)))) a7 (.dat (tI r)) a9 a10 a11 a12 a13 a14 a15)) := by
  have hpos : 0 < (ways ss ls.length).length := List.length_pos_iff.mpr (ways_ne g)
  have h0 : (ways ss ls.length)[0]? = some (ways ss ls.length)[0] := List.getElem?_eq_getElem hpos
  have m0 : (ways ss ls.length)[0] ∈ ways ss ls.length := List.getElem_mem hpos
  generalize (ways ss ls.length)[0] = r0 at h0 m0
  have x0 := ix_rows (atI_nat' (k := 0) (by decide) h0)
  refine ⟨r0, m0, ?_⟩
  unfold s17_law
  simp only [ev_set, ev_op2, ev_var, ev_lit, List.getElem?_cons_zero, List.getElem?_cons_succ, ok_b, x0, ev_lift_ok]
  rfl
/-- wrong stowings -/
theorem wrong18 (g : Good2 ls ss) {w : PyData} (h : stowOk ls.length ss w = false) : ((Tg.nm 14).d (E a0 a1 a2 (.dat (tI ss)) (.dat (tI ls)) a5 a6 a7 a8 a9 a10 a11 a12 a13 a14 a15) w >>= fun ρ1 => s4_law ρ1) = .ok (.nx (E a0 a1 a2 (.dat (tI ss)) (.dat (tI ls)) a5 a6 a7 a8 a9 a10 a11 a12 a13 (.dat w) a15)) := by
  rw [ev_nm, ok_b]
  have hc : dComp (dCallL range1D (dCons (dLit (.int 3)) dNil)) [15] (.nm 15) tYesD (dCall cf__law_error (dCons (dVar 15) (dCons (dVar 4) (dCons (dVar 3) (dCons (dVar 14) dNil))))) (E a0 a1 a2 (.dat (tI ss)) (.dat (tI ls)) a5 a6 a7 a8 a9 a10 a11 a12 a13 (.dat w) a15) = .ok ((List.range 3).map fun (_ : Nat) => .str "stowing") := by
    refine dComp_map (xs := List.range 3) (fun (i : Nat) => .int i) _ ?_ (by decide) (by simp) fun j hj => ?_
    · have := rng_n 3 (by decide)
      simp only [ev_callL, ev_cons, ev_lit, ev_nil, ok_b]
      exact this
    · have := err_stow g j (List.mem_range.mp hj) w h
      simp [bodyC, wipeD, this]
  unfold s4_law
  show sIf _ _ _ (E a0 a1 a2 (.dat (tI ss)) (.dat (tI ls)) a5 a6 a7 a8 a9 a10 a11 a12 a13 (.dat w) a15) = _
  have hm : mulD (.list [.str "stowing"]) (.int 3) = _ := mul_word (.str "stowing") 3 (by decide)
  simp only [ev_sIf, ev_val, ev_op2, ev_lst, hc, rep_map (α := Nat), ok_m, ok_b, ev_list, ev_cons, ev_lit, ev_nil, List.length_cons, List.length_nil, Nat.zero_add, ok1, if_true, hm, ne_stow, ev_bool, ev_lift_ok, Bool.false_eq_true, if_false, ev_skip]
def menu18 (r : List Int) : List PyData := [.none, lI r, tI (r.drop 1), .tuple (eI r ++ [.int 99]), .tuple ([.int 99] ++ eI (r.drop 1)), .tuple ([.none] ++ eI (r.drop 1)), (if 1 < r.length then .tuple (List.replicate r.length (eI (r.take 1))).flatten else .int 7), .tuple ([.bool true] ++ eI (r.drop 1)), .int 7]
theorem stow_no {ds : List PyData} {n : Nat} (h : wholes ds (-20) 20 = false) : stowOk n ss (.tuple ds) = false := by
  simp [stowOk, h]
theorem menu18_bad (g : Good2 ls ss) {r : List Int} (hr : r ∈ ways ss ls.length) : ∀ w ∈ menu18 r, stowOk ls.length ss w = false := by
  have hl := ways_rows hr
  have l1 := g.l1
  intro w hw
  simp only [menu18, List.mem_cons, List.not_mem_nil, or_false] at hw
  rcases hw with rfl | rfl | rfl | rfl | rfl | rfl | rfl | rfl | rfl
  · rfl
  · rfl
  · have : ¬ (eI (r.drop 1)).length = ls.length := by simp; omega
    simp only [stowOk, decide_eq_false this, Bool.false_and]
  · exact stow_no (wholes_no (d := .int 99) (by simp) (by decide))
  · exact stow_no (wholes_no (d := .int 99) (by simp) (by decide))
  · exact stow_no (wholes_no (d := .none) (by simp) (by decide))
  · split
    · rename_i h
      obtain ⟨x, y, q, rfl⟩ : ∃ x y q, r = x :: y :: q := by
        match r, h with
        | x :: y :: q, _ => exact ⟨x, y, q, rfl⟩
      have e : (List.replicate (x :: y :: q).length (eI ((x :: y :: q).take 1))).flatten = eI (x :: x :: List.replicate q.length x) := by
        have : ∀ n, (List.replicate n (eI [x])).flatten = eI (List.replicate n x) := by
          intro n
          induction n with
          | zero => rfl
          | succ n ih => rw [List.replicate_succ, List.flatten_cons, ih, List.replicate_succ]; rfl
        rw [show (x :: y :: q).take 1 = [x] from rfl, this]
        rfl
      rw [e]
      have : ¬ (x :: x :: List.replicate q.length x).Nodup := by
        intro h
        exact (List.nodup_cons.mp h).1 (by simp)
      simp only [stowOk, vals_eI, decide_eq_false this, Bool.and_false]
    · rfl
  · exact stow_no (wholes_no (d := .bool true) (by simp) (by decide))
  · rfl
theorem st18 (g : Good2 ls ss) {r : List Int} (hr : r ∈ ways ss ls.length) : ∃ b, s18_law (E a0 a1 a2 (.dat (tI ss)) (.dat (tI ls)) a5 a6 a7 (.dat (tI r)) a9 a10 a11 a12 a13 a14 a15) = .ok (.nx (E a0 a1 a2 (.dat (tI ss)) (.dat (tI ls)) a5 a6 a7 (.dat (tI r)) a9 a10 a11 a12 a13 b a15)) := by
  obtain ⟨ρ', hf, b, rfl⟩ := forD_ix (t := .nm 14) (b := s4_law) (fun d => d) (fun _ ρ => ∃ b, ρ = (E a0 a1 a2 (.dat (tI ss)) (.dat (tI ls)) a5 a6 a7 (.dat (tI r)) a9 a10 a11 a12 a13 b a15)) (menu18 r) (ρ := E a0 a1 a2 (.dat (tI ss)) (.dat (tI ls)) a5 a6 a7 (.dat (tI r)) a9 a10 a11 a12 a13 a14 a15) (by
    rintro i w ρ hw _ ⟨b, rfl⟩
    exact ⟨_, .inl (wrong18 g (menu18_bad g hr w (List.mem_of_getElem? hw))), .dat w, rfl⟩) ⟨_, rfl⟩
  rw [List.map_id'] at hf
  refine ⟨b, ev_for_eq ?_ hf⟩
  have hl := ways_rows hr
  have l2 := g.l2
  have p1 : ∀ x : PyData, addD (.tuple [x]) (.tuple (eI (r.drop 1))) = .ok (.tuple ([x] ++ eI (r.drop 1))) := fun x => add_tt (by simp; omega)
  have p2 : addD (.tuple (eI r)) (.tuple [.int 99]) = .ok (.tuple (eI r ++ [.int 99])) := add_tt (by simp; omega)
  have ok9 : okLen 9 = true := okLen_of (by omega)
  have ct : Den.cutD (eI r) none (some 1) = eI (r.take 1) := by rw [cut_to _ (by decide)]; simp
  by_cases h1 : 1 < r.length
  · have h1' : (1 : Int) < r.length := by omega
    have p3 : mulD (.tuple (eI (r.take 1))) (.int (r.length : Int)) = .ok (.tuple (List.replicate r.length (eI (r.take 1))).flatten) := by
      simp only [mulD]
      rw [if_pos ⟨by intro e; have := congrArg List.length e; rw [List.length_map, List.length_take, List.length_nil] at this; omega, by omega, by omega, by rw [List.length_map, List.length_take]; omega⟩, Int.toNat_natCast]
    simp only [ev_iD, ev_lst, ev_list, ev_cons, ev_lit, ev_callL, ev_call, ev_var, ev_nil, ev_tup, ev_if, ev_val, ev_op2, ev_sl, ev_oS, ev_oN, List.getElem?_cons_zero, List.getElem?_cons_succ, ok_b, ok_m, lst_t, len_t, gt_i, ev_bool, List.length_map, List.length_nil, List.length_cons, Nat.zero_add, ok0, ok1, if_true, sl_t, drop1, ct, p1, p2, p3, h1', decide_true, Nat.reduceAdd, ok9, it_l]
    simp only [menu18, h1, if_true]
  · have h1' : ¬ (1 : Int) < r.length := by omega
    simp only [ev_iD, ev_lst, ev_list, ev_cons, ev_lit, ev_callL, ev_call, ev_var, ev_nil, ev_tup, ev_if, ev_val, ev_op2, ev_sl, ev_oS, ev_oN, List.getElem?_cons_zero, List.getElem?_cons_succ, ok_b, ok_m, lst_t, len_t, gt_i, ev_bool, List.length_map, List.length_nil, List.length_cons, Nat.zero_add, ok0, ok1, if_true, sl_t, drop1, ct, p1, p2, h1', decide_false, Bool.false_eq_true, if_false, Nat.reduceAdd, ok9, it_l]
    simp only [menu18, h1, if_false]
end Nk52

set_option Elab.async false
set_option linter.all false
set_option maxRecDepth 100000
set_option maxHeartbeats 4000000
namespace Nk52
open PySem PySem.Spec PyProof.Rows L2 Den
variable {ls ss ds : List Int} {a0 a1 a2 a3 a4 a5 a6 a7 a8 a9 a10 a11 a12 a13 a14 a15 : B}
abbrev turnB : DS := sSeq s5_law (sSeq s6_law (sSeq s7_law (sSeq s8_law (sSeq s9_law (sSeq s10_law (sSeq s11_law (sSeq s12_law (sSeq s13_law (sSeq s14_law (sSeq s15_law (sSeq s16_law (sSeq s17_law s18_law))))))))))))
theorem turn_ok (hd : ds.length = 60) (ok : DrawOk ds) {k : Nat} (hk : k < 5) : ∃ b3 b4 b6 b7 b8 b9 b11 b13 b14, ((Tg.nm 2).d (E a0 (.dat (lI ds)) a2 a3 a4 a5 a6 a7 a8 a9 a10 a11 a12 a13 a14 a15) (.int k) >>= fun ρ1 => turnB ρ1) = .ok (.nx (E a0 (.dat (lI ds)) (.dat (.int k)) b3 b4 a5 b6 b7 b8 b9 a10 b11 a12 b13 b14 a15)) := by
  rw [ev_nm, ok_b]
  show ∃ b3 b4 b6 b7 b8 b9 b11 b13 b14, turnB (E a0 (.dat (lI ds)) (.dat (.int k)) a3 a4 a5 a6 a7 a8 a9 a10 a11 a12 a13 a14 a15) = _
  obtain ⟨ss, gs, e5⟩ := st5 (a0 := a0) (a3 := a3) (a4 := a4) (a5 := a5) (a6 := a6) (a7 := a7) (a8 := a8) (a9 := a9) (a10 := a10) (a11 := a11) (a12 := a12) (a13 := a13) (a14 := a14) (a15 := a15) hd hk
  rw [turnB, ev_seq_nx e5]
  obtain ⟨ls, g, e6⟩ := st6 (a0 := a0) (a4 := a4) (a5 := a5) (a6 := a6) (a7 := a7) (a8 := a8) (a9 := a9) (a10 := a10) (a11 := a11) (a12 := a12) (a13 := a13) (a14 := a14) (a15 := a15) hd ok gs hk
  rw [ev_seq_nx e6, ev_seq_nx (st7 g), ev_seq_nx (st8 g), ev_seq_nx (st9 g), ev_seq_nx (st10 g)]
  obtain ⟨b8, e11⟩ := st11 (a0 := a0) (a5 := a5) (a7 := .dat (.list ((ways ss ls.length).map (encT ls)))) (a8 := a8) (a9 := .dat (enc3 ls (best ls (ways ss ls.length)))) (a10 := a10) (a11 := a11) (a12 := a12) (a13 := a13) (a14 := a14) (a15 := a15) g hd hk
  rw [ev_seq_nx e11, ev_seq_nx (st12 g.s2), ev_seq_nx (st13 g), ev_seq_nx (st14 g)]
  obtain ⟨b14, e15⟩ := st15 (a0 := a0) (a1 := .dat (lI ds)) (a2 := .dat (.int k)) (a5 := a5) (a6 := .dat (.list (eR (ways ss ls.length)))) (a7 := .dat (.list ((ways ss ls.length).map (encT ls)))) (a8 := b8) (a9 := .dat (enc3 ls (best ls (ways ss ls.length)))) (a10 := a10) (a11 := .dat (tI (mir ss))) (a12 := a12) (a13 := .dat (encT ls (best ls (ways (mir ss) ls.length)))) (a14 := a14) (a15 := a15) g
  rw [ev_seq_nx e15]
  obtain ⟨c14, e16⟩ := st16 (a0 := a0) (a1 := .dat (lI ds)) (a2 := .dat (.int k)) (a5 := a5) (a6 := .dat (.list (eR (ways ss ls.length)))) (a7 := .dat (.list ((ways ss ls.length).map (encT ls)))) (a8 := b8) (a9 := .dat (enc3 ls (best ls (ways ss ls.length)))) (a10 := a10) (a11 := .dat (tI (mir ss))) (a12 := a12) (a13 := .dat (encT ls (best ls (ways (mir ss) ls.length)))) (a14 := b14) (a15 := a15) g
  rw [ev_seq_nx e16]
  obtain ⟨r, hr, e17⟩ := st17 (a0 := a0) (a1 := .dat (lI ds)) (a2 := .dat (.int k)) (a3 := .dat (tI ss)) (a4 := .dat (tI ls)) (a5 := a5) (a7 := .dat (.list ((ways ss ls.length).map (encT ls)))) (a8 := b8) (a9 := .dat (enc3 ls (best ls (ways ss ls.length)))) (a10 := a10) (a11 := .dat (tI (mir ss))) (a12 := a12) (a13 := .dat (encT ls (best ls (ways (mir ss) ls.length)))) (a14 := c14) (a15 := a15) g
  rw [ev_seq_nx e17]
  obtain ⟨d14, e18⟩ := st18 (a0 := a0) (a1 := .dat (lI ds)) (a2 := .dat (.int k)) (a5 := a5) (a6 := .dat (.list (eR (ways ss ls.length)))) (a7 := .dat (.list ((ways ss ls.length).map (encT ls)))) (a9 := .dat (enc3 ls (best ls (ways ss ls.length)))) (a10 := a10) (a11 := .dat (tI (mir ss))) (a12 := a12) (a13 := .dat (encT ls (best ls (ways (mir ss) ls.length)))) (a14 := c14) (a15 := a15) g hr
  exact ⟨_, _, _, _, _, _, _, _, _, e18⟩
theorem g1 : Good2 [5, 3] [-2, -1, 1, 3] := ⟨by decide, by decide, by decide, by decide, by decide, by decide, by decide⟩
theorem g2 : Good2 [2, 1] [-1, 2] := ⟨by decide, by decide, by decide, by decide, by decide, by decide, by decide⟩
theorem g3 : Good2 [1, 1] [-1, 1] := ⟨by decide, by decide, by decide, by decide, by decide, by decide, by decide⟩
theorem g4 : Good2 [4, 2] [-3, 0, 5] := ⟨by decide, by decide, by decide, by decide, by decide, by decide, by decide⟩
theorem k1 : cf_least_tilt [.tuple [.int 5, .int 3], .tuple [.int (-2), .int (-1), .int 1, .int 3]] = .ok (.tuple [.int (-1), .tuple [.int (-2), .int 3]]) := by
  have := least_eq g1
  have e : best [5, 3] (ways [-2, -1, 1, 3] ([5, 3] : List Int).length) = [-2, 3] := by decide +kernel
  rw [e] at this
  exact this
theorem k2 : cf_least_tilt [.tuple [.int 2, .int 1], .tuple [.int (-1), .int 2]] = .ok (.tuple [.int 0, .tuple [.int (-1), .int 2]]) := by
  have := least_eq g2
  have e : best [2, 1] (ways [-1, 2] ([2, 1] : List Int).length) = [-1, 2] := by decide +kernel
  rw [e] at this
  exact this
theorem k3 : cf_count_level [.tuple [.int 1, .int 1], .tuple [.int (-1), .int 1]] = .ok (.int 2) := by
  have := count_eq g3
  have e : ((ways [-1, 1] ([1, 1] : List Int).length).countP fun r => decide (tiltOf [1, 1] r = 0)) = 2 := by decide +kernel
  rw [e] at this
  exact this
theorem k4 : cf_tilt_of [.tuple [.int 4, .int 2], .tuple [.int (-3), .int 0, .int 5], .tuple [.int 5, .int (-3)]] = .ok (.int 14) := by
  have := tiltof_eq g4 (r := [5, -3]) (by decide)
  have e : tiltOf [4, 2] [5, -3] = 14 := by decide
  rw [e] at this
  exact this
theorem law_true (ns : List Int) (h : ns.length ≤ 63) : cf_law [.list (ns.map .int)] = .ok (.bool true) := by
  obtain ⟨ds, hD, hd, ok⟩ := cfD ns h
  have e19 : s19_law [.fz (eI ns), .un, .un, .un, .un, .un, .un, .un, .un, .un, .un, .un, .un, .un, .un, .un] = .ok (.nx (E (.fz (eI ns)) (.dat (lI ds)) .un .un .un .un .un .un .un .un .un .un .un .un .un .un)) := by
    unfold s19_law
    simp only [ev_set, ev_call, ev_cons, ev_varB, ev_lit, ev_nil, List.getElem?_cons_zero, ok_b, hD, ev_lift_ok]
    rfl
  obtain ⟨ρ', hf, b2, b3, b4, b5, b6, b7, b8, b9, b10, b11, b12, b13, b14, b15, rfl⟩ := forD_ix (t := .nm 2) (b := turnB) (fun (i : Nat) => PyData.int i) (fun _ ρ => ∃ b2 b3 b4 b5 b6 b7 b8 b9 b10 b11 b12 b13 b14 b15, ρ = E (.fz (eI ns)) (.dat (lI ds)) b2 b3 b4 b5 b6 b7 b8 b9 b10 b11 b12 b13 b14 b15) (List.range 5)
    (ρ := E (.fz (eI ns)) (.dat (lI ds)) .un .un .un .un .un .un .un .un .un .un .un .un .un .un) (by
      rintro k i ρ hk hlt ⟨b2, b3, b4, b5, b6, b7, b8, b9, b10, b11, b12, b13, b14, b15, rfl⟩
      rw [List.length_range] at hlt
      have hi : i = k := by
        rw [List.getElem?_range hlt] at hk
        exact (Option.some.inj hk).symm
      subst hi
      obtain ⟨c3, c4, c6, c7, c8, c9, c11, c13, c14, e⟩ := turn_ok (a0 := .fz (eI ns)) (a2 := b2) (a3 := b3) (a4 := b4) (a5 := b5) (a6 := b6) (a7 := b7) (a8 := b8) (a9 := b9) (a10 := b10) (a11 := b11) (a12 := b12) (a13 := b13) (a14 := b14) (a15 := b15) hd ok hlt
      exact ⟨_, .inl e, _, _, _, _, _, _, _, _, _, _, _, _, _, _, rfl⟩) ⟨_, _, _, _, _, _, _, _, _, _, _, _, _, _, rfl⟩
  have e20 : s20_law (E (.fz (eI ns)) (.dat (lI ds)) .un .un .un .un .un .un .un .un .un .un .un .un .un .un) = .ok (.nx (E (.fz (eI ns)) (.dat (lI ds)) b2 b3 b4 b5 b6 b7 b8 b9 b10 b11 b12 b13 b14 b15)) := by
    refine ev_for_eq ?_ hf
    have := rng_n 5 (by decide)
    simp only [ev_callL, ev_cons, ev_lit, ev_nil, ok_b]
    exact this
  show outD (bd_law [.fz (eI ns), .un, .un, .un, .un, .un, .un, .un, .un, .un, .un, .un, .un, .un, .un, .un]) = _
  unfold bd_law
  rw [ev_seq_nx e19, ev_seq_nx e20]
  have e21 : ∀ ρ : EnvD, s21_law ρ = .ok (.nx ρ) := by
    intro ρ
    have hn : neD (.tuple [.int (-1), .tuple [.int (-2), .int 3]]) (.tuple [.int (-1), .tuple [.int (-2), .int 3]]) = .ok (.bool false) := by
      rw [ne_ok (by decide +kernel) (by decide +kernel)]
      rfl
    unfold s21_law
    simp [k1, hn]
  have e22 : ∀ ρ : EnvD, s22_law ρ = .ok (.rt (.bool true)) := by
    intro ρ
    have hn : eqD (.tuple [.int 0, .tuple [.int (-1), .int 2]]) (.tuple [.int 0, .tuple [.int (-1), .int 2]]) = .ok (.bool true) := by
      rw [eq_ok (by decide +kernel) (by decide +kernel)]
      rfl
    unfold s22_law
    simp [k2, hn, k3, k4]
  rw [ev_seq_nx (e21 _), e22]
  rfl
end Nk52

set_option Elab.async false
set_option linter.all false
set_option maxRecDepth 100000
set_option maxHeartbeats 4000000
namespace Nk52
open PySem PySem.Spec PyProof.Rows L2 Den
/-- what the top has written -/
theorem all_mk {l : PySem.W.OpenLaw} {w : World} {K : PySem.W.Frag} {h : Heap} {mg : Str → Option Value} {fa : Addr} (X : K.In h) (G : h.Ns mainGlobals mg) (hfa : mg "law" = some (.ref fa))
    {f__law_draws : Addr} {od__law_draws an__law_draws : Option Addr} {sl__law_draws : Array (Option Value)} {oc__law_draws kV__law_draws dc__law_draws pm__law_draws cd__law_draws ct__law_draws : Value}
    {f__boarding : Addr} {od__boarding an__boarding : Option Addr} {sl__boarding : Array (Option Value)} {oc__boarding kV__boarding dc__boarding pm__boarding cd__boarding ct__boarding : Value}
    {f_ascends : Addr} {od_ascends an_ascends : Option Addr} {sl_ascends : Array (Option Value)} {oc_ascends kV_ascends dc_ascends pm_ascends cd_ascends ct_ascends : Value}
    {f_is_whole : Addr} {od_is_whole an_is_whole : Option Addr} {sl_is_whole : Array (Option Value)} {oc_is_whole kV_is_whole dc_is_whole pm_is_whole cd_is_whole ct_is_whole : Value}
    {f__check : Addr} {od__check an__check : Option Addr} {sl__check : Array (Option Value)} {oc__check kV__check dc__check pm__check cd__check ct__check : Value}
    {f__check_stowing : Addr} {od__check_stowing an__check_stowing : Option Addr} {sl__check_stowing : Array (Option Value)} {oc__check_stowing kV__check_stowing dc__check_stowing pm__check_stowing cd__check_stowing ct__check_stowing : Value}
    {f_boarding : Addr} {od_boarding an_boarding : Option Addr} {sl_boarding : Array (Option Value)} {oc_boarding kV_boarding dc_boarding pm_boarding cd_boarding ct_boarding : Value}
    {f__stowings : Addr} {od__stowings an__stowings : Option Addr} {sl__stowings : Array (Option Value)} {oc__stowings kV__stowings dc__stowings pm__stowings cd__stowings ct__stowings : Value}
    {f__tilt : Addr} {od__tilt an__tilt : Option Addr} {sl__tilt : Array (Option Value)} {oc__tilt kV__tilt dc__tilt pm__tilt cd__tilt ct__tilt : Value}
    {f_count_level : Addr} {od_count_level an_count_level : Option Addr} {sl_count_level : Array (Option Value)} {oc_count_level kV_count_level dc_count_level pm_count_level cd_count_level ct_count_level : Value}
    {f_least_tilt : Addr} {od_least_tilt an_least_tilt : Option Addr} {sl_least_tilt : Array (Option Value)} {oc_least_tilt kV_least_tilt dc_least_tilt pm_least_tilt cd_least_tilt ct_least_tilt : Value}
    {f_steadiest : Addr} {od_steadiest an_steadiest : Option Addr} {sl_steadiest : Array (Option Value)} {oc_steadiest kV_steadiest dc_steadiest pm_steadiest cd_steadiest ct_steadiest : Value}
    {f_tilt_of : Addr} {od_tilt_of an_tilt_of : Option Addr} {sl_tilt_of : Array (Option Value)} {oc_tilt_of kV_tilt_of dc_tilt_of pm_tilt_of cd_tilt_of ct_tilt_of : Value}
    {f__law_error : Addr} {od__law_error an__law_error : Option Addr} {sl__law_error : Array (Option Value)} {oc__law_error kV__law_error dc__law_error pm__law_error cd__law_error ct__law_error : Value}
    {f__law_every : Addr} {od__law_every an__law_every : Option Addr} {sl__law_every : Array (Option Value)} {oc__law_every kV__law_every dc__law_every pm__law_every cd__law_every ct__law_every : Value}
    {f__law_seats : Addr} {od__law_seats an__law_seats : Option Addr} {sl__law_seats : Array (Option Value)} {oc__law_seats kV__law_seats dc__law_seats pm__law_seats cd__law_seats ct__law_seats : Value}
    {f__law_sum : Addr} {od__law_sum an__law_sum : Option Addr} {sl__law_sum : Array (Option Value)} {oc__law_sum kV__law_sum dc__law_sum pm__law_sum cd__law_sum ct__law_sum : Value}
    {f_law : Addr} {od_law an_law : Option Addr} {sl_law : Array (Option Value)} {oc_law kV_law dc_law pm_law cd_law ct_law : Value}
    {t_v_MOST_TILT : Tok}
    {t_v_MOST_FAR : Tok}
    {t_v_MOST_SEATS : Tok}
    {t_v_MOST_LOADS : Tok}
    {t_v_MOST_HEAVY : Tok}
    {C_BadLoads : Addr}
    {C_BadMost : Addr}
    {C_BadSeats : Addr}
    {C_BadStowing : Addr}
    {C_ChestError : Addr}
    (a__law_draws : PySem.W.nsIn K mainGlobals "_law_draws" = some (some (.ref f__law_draws))) (l__law_draws : K.lookup f__law_draws = some ⟨oc__law_draws, od__law_draws, .func (PySem.W.fnOf "_law_draws" "_law_draws" (defArgs (topS 27)) (defBody (topS 27)) (defScope (topS 27)) .none kV__law_draws dc__law_draws pm__law_draws an__law_draws cd__law_draws ct__law_draws), sl__law_draws⟩) (c__law_draws : PySem.W.codeIn K cd__law_draws "_law_draws" = true) (k__law_draws : PySem.W.keepIn K (.ref f__law_draws) = true)
    (a__boarding : PySem.W.nsIn K mainGlobals "_boarding" = some (some (.ref f__boarding))) (l__boarding : K.lookup f__boarding = some ⟨oc__boarding, od__boarding, .func (PySem.W.fnOf "_boarding" "_boarding" (defArgs (topS 22)) (defBody (topS 22)) (defScope (topS 22)) .none kV__boarding dc__boarding pm__boarding an__boarding cd__boarding ct__boarding), sl__boarding⟩) (c__boarding : PySem.W.codeIn K cd__boarding "_boarding" = true) (k__boarding : PySem.W.keepIn K (.ref f__boarding) = true)
    (a_ascends : PySem.W.nsIn K mainGlobals "ascends" = some (some (.ref f_ascends))) (l_ascends : K.lookup f_ascends = some ⟨oc_ascends, od_ascends, .func (PySem.W.fnOf "ascends" "ascends" (defArgs (topS 8)) (defBody (topS 8)) (defScope (topS 8)) .none kV_ascends dc_ascends pm_ascends an_ascends cd_ascends ct_ascends), sl_ascends⟩) (c_ascends : PySem.W.codeIn K cd_ascends "ascends" = true) (k_ascends : PySem.W.keepIn K (.ref f_ascends) = true)
    (a_is_whole : PySem.W.nsIn K mainGlobals "is_whole" = some (some (.ref f_is_whole))) (l_is_whole : K.lookup f_is_whole = some ⟨oc_is_whole, od_is_whole, .func (PySem.W.fnOf "is_whole" "is_whole" (defArgs (topS 7)) (defBody (topS 7)) (defScope (topS 7)) .none kV_is_whole dc_is_whole pm_is_whole an_is_whole cd_is_whole ct_is_whole), sl_is_whole⟩) (c_is_whole : PySem.W.codeIn K cd_is_whole "is_whole" = true) (k_is_whole : PySem.W.keepIn K (.ref f_is_whole) = true)
    (a__check : PySem.W.nsIn K mainGlobals "_check" = some (some (.ref f__check))) (l__check : K.lookup f__check = some ⟨oc__check, od__check, .func (PySem.W.fnOf "_check" "_check" (defArgs (topS 15)) (defBody (topS 15)) (defScope (topS 15)) .none kV__check dc__check pm__check an__check cd__check ct__check), sl__check⟩) (c__check : PySem.W.codeIn K cd__check "_check" = true) (k__check : PySem.W.keepIn K (.ref f__check) = true)
    (a__check_stowing : PySem.W.nsIn K mainGlobals "_check_stowing" = some (some (.ref f__check_stowing))) (l__check_stowing : K.lookup f__check_stowing = some ⟨oc__check_stowing, od__check_stowing, .func (PySem.W.fnOf "_check_stowing" "_check_stowing" (defArgs (topS 16)) (defBody (topS 16)) (defScope (topS 16)) .none kV__check_stowing dc__check_stowing pm__check_stowing an__check_stowing cd__check_stowing ct__check_stowing), sl__check_stowing⟩) (c__check_stowing : PySem.W.codeIn K cd__check_stowing "_check_stowing" = true) (k__check_stowing : PySem.W.keepIn K (.ref f__check_stowing) = true)
    (a_boarding : PySem.W.nsIn K mainGlobals "boarding" = some (some (.ref f_boarding))) (l_boarding : K.lookup f_boarding = some ⟨oc_boarding, od_boarding, .func (PySem.W.fnOf "boarding" "boarding" (defArgs (topS 24)) (defBody (topS 24)) (defScope (topS 24)) .none kV_boarding dc_boarding pm_boarding an_boarding cd_boarding ct_boarding), sl_boarding⟩) (c_boarding : PySem.W.codeIn K cd_boarding "boarding" = true) (k_boarding : PySem.W.keepIn K (.ref f_boarding) = true)
    (a__stowings : PySem.W.nsIn K mainGlobals "_stowings" = some (some (.ref f__stowings))) (l__stowings : K.lookup f__stowings = some ⟨oc__stowings, od__stowings, .func (PySem.W.fnOf "_stowings" "_stowings" (defArgs (topS 19)) (defBody (topS 19)) (defScope (topS 19)) .none kV__stowings dc__stowings pm__stowings an__stowings cd__stowings ct__stowings), sl__stowings⟩) (c__stowings : PySem.W.codeIn K cd__stowings "_stowings" = true) (k__stowings : PySem.W.keepIn K (.ref f__stowings) = true)
    (a__tilt : PySem.W.nsIn K mainGlobals "_tilt" = some (some (.ref f__tilt))) (l__tilt : K.lookup f__tilt = some ⟨oc__tilt, od__tilt, .func (PySem.W.fnOf "_tilt" "_tilt" (defArgs (topS 17)) (defBody (topS 17)) (defScope (topS 17)) .none kV__tilt dc__tilt pm__tilt an__tilt cd__tilt ct__tilt), sl__tilt⟩) (c__tilt : PySem.W.codeIn K cd__tilt "_tilt" = true) (k__tilt : PySem.W.keepIn K (.ref f__tilt) = true)
    (a_count_level : PySem.W.nsIn K mainGlobals "count_level" = some (some (.ref f_count_level))) (l_count_level : K.lookup f_count_level = some ⟨oc_count_level, od_count_level, .func (PySem.W.fnOf "count_level" "count_level" (defArgs (topS 21)) (defBody (topS 21)) (defScope (topS 21)) .none kV_count_level dc_count_level pm_count_level an_count_level cd_count_level ct_count_level), sl_count_level⟩) (c_count_level : PySem.W.codeIn K cd_count_level "count_level" = true) (k_count_level : PySem.W.keepIn K (.ref f_count_level) = true)
    (a_least_tilt : PySem.W.nsIn K mainGlobals "least_tilt" = some (some (.ref f_least_tilt))) (l_least_tilt : K.lookup f_least_tilt = some ⟨oc_least_tilt, od_least_tilt, .func (PySem.W.fnOf "least_tilt" "least_tilt" (defArgs (topS 20)) (defBody (topS 20)) (defScope (topS 20)) .none kV_least_tilt dc_least_tilt pm_least_tilt an_least_tilt cd_least_tilt ct_least_tilt), sl_least_tilt⟩) (c_least_tilt : PySem.W.codeIn K cd_least_tilt "least_tilt" = true) (k_least_tilt : PySem.W.keepIn K (.ref f_least_tilt) = true)
    (a_steadiest : PySem.W.nsIn K mainGlobals "steadiest" = some (some (.ref f_steadiest))) (l_steadiest : K.lookup f_steadiest = some ⟨oc_steadiest, od_steadiest, .func (PySem.W.fnOf "steadiest" "steadiest" (defArgs (topS 25)) (defBody (topS 25)) (defScope (topS 25)) .none kV_steadiest dc_steadiest pm_steadiest an_steadiest cd_steadiest ct_steadiest), sl_steadiest⟩) (c_steadiest : PySem.W.codeIn K cd_steadiest "steadiest" = true) (k_steadiest : PySem.W.keepIn K (.ref f_steadiest) = true)
    (a_tilt_of : PySem.W.nsIn K mainGlobals "tilt_of" = some (some (.ref f_tilt_of))) (l_tilt_of : K.lookup f_tilt_of = some ⟨oc_tilt_of, od_tilt_of, .func (PySem.W.fnOf "tilt_of" "tilt_of" (defArgs (topS 18)) (defBody (topS 18)) (defScope (topS 18)) .none kV_tilt_of dc_tilt_of pm_tilt_of an_tilt_of cd_tilt_of ct_tilt_of), sl_tilt_of⟩) (c_tilt_of : PySem.W.codeIn K cd_tilt_of "tilt_of" = true) (k_tilt_of : PySem.W.keepIn K (.ref f_tilt_of) = true)
    (a__law_error : PySem.W.nsIn K mainGlobals "_law_error" = some (some (.ref f__law_error))) (l__law_error : K.lookup f__law_error = some ⟨oc__law_error, od__law_error, .func (PySem.W.fnOf "_law_error" "_law_error" (defArgs (topS 31)) (defBody (topS 31)) (defScope (topS 31)) .none kV__law_error dc__law_error pm__law_error an__law_error cd__law_error ct__law_error), sl__law_error⟩) (c__law_error : PySem.W.codeIn K cd__law_error "_law_error" = true) (k__law_error : PySem.W.keepIn K (.ref f__law_error) = true)
    (a__law_every : PySem.W.nsIn K mainGlobals "_law_every" = some (some (.ref f__law_every))) (l__law_every : K.lookup f__law_every = some ⟨oc__law_every, od__law_every, .func (PySem.W.fnOf "_law_every" "_law_every" (defArgs (topS 29)) (defBody (topS 29)) (defScope (topS 29)) .none kV__law_every dc__law_every pm__law_every an__law_every cd__law_every ct__law_every), sl__law_every⟩) (c__law_every : PySem.W.codeIn K cd__law_every "_law_every" = true) (k__law_every : PySem.W.keepIn K (.ref f__law_every) = true)
    (a__law_seats : PySem.W.nsIn K mainGlobals "_law_seats" = some (some (.ref f__law_seats))) (l__law_seats : K.lookup f__law_seats = some ⟨oc__law_seats, od__law_seats, .func (PySem.W.fnOf "_law_seats" "_law_seats" (defArgs (topS 28)) (defBody (topS 28)) (defScope (topS 28)) .none kV__law_seats dc__law_seats pm__law_seats an__law_seats cd__law_seats ct__law_seats), sl__law_seats⟩) (c__law_seats : PySem.W.codeIn K cd__law_seats "_law_seats" = true) (k__law_seats : PySem.W.keepIn K (.ref f__law_seats) = true)
    (a__law_sum : PySem.W.nsIn K mainGlobals "_law_sum" = some (some (.ref f__law_sum))) (l__law_sum : K.lookup f__law_sum = some ⟨oc__law_sum, od__law_sum, .func (PySem.W.fnOf "_law_sum" "_law_sum" (defArgs (topS 30)) (defBody (topS 30)) (defScope (topS 30)) .none kV__law_sum dc__law_sum pm__law_sum an__law_sum cd__law_sum ct__law_sum), sl__law_sum⟩) (c__law_sum : PySem.W.codeIn K cd__law_sum "_law_sum" = true) (k__law_sum : PySem.W.keepIn K (.ref f__law_sum) = true)
    (a_law : PySem.W.nsIn K mainGlobals "law" = some (some (.ref f_law))) (l_law : K.lookup f_law = some ⟨oc_law, od_law, .func (PySem.W.fnOf "law" "law" (defArgs (topS 32)) (defBody (topS 32)) (defScope (topS 32)) .none kV_law dc_law pm_law an_law cd_law ct_law), sl_law⟩) (c_law : PySem.W.codeIn K cd_law "law" = true) (k_law : PySem.W.keepIn K (.ref f_law) = true)
    (n_range : PySem.W.nsIn K mainGlobals "range" = some none)
    (n_tuple : PySem.W.nsIn K mainGlobals "tuple" = some none)
    (n_min : PySem.W.nsIn K mainGlobals "min" = some none)
    (n_len : PySem.W.nsIn K mainGlobals "len" = some none)
    (n_int : PySem.W.nsIn K mainGlobals "int" = some none)
    (n_max : PySem.W.nsIn K mainGlobals "max" = some none)
    (n_list : PySem.W.nsIn K mainGlobals "list" = some none)
    (n_abs : PySem.W.nsIn K mainGlobals "abs" = some none)
    (n_isinstance : PySem.W.nsIn K mainGlobals "isinstance" = some none)
    (v_MOST_TILT : PySem.W.nsIn K mainGlobals "MOST_TILT" = some (some (.int (100000) t_v_MOST_TILT)))
    (n_all : PySem.W.nsIn K mainGlobals "all" = some none)
    (v_MOST_FAR : PySem.W.nsIn K mainGlobals "MOST_FAR" = some (some (.int (20) t_v_MOST_FAR)))
    (v_MOST_SEATS : PySem.W.nsIn K mainGlobals "MOST_SEATS" = some (some (.int (8) t_v_MOST_SEATS)))
    (v_MOST_LOADS : PySem.W.nsIn K mainGlobals "MOST_LOADS" = some (some (.int (6) t_v_MOST_LOADS)))
    (v_MOST_HEAVY : PySem.W.nsIn K mainGlobals "MOST_HEAVY" = some (some (.int (100) t_v_MOST_HEAVY)))
    (n_zip : PySem.W.nsIn K mainGlobals "zip" = some none)
    (n_bool : PySem.W.nsIn K mainGlobals "bool" = some none)
    (n_sum : PySem.W.nsIn K mainGlobals "sum" = some none)
    (n_sorted : PySem.W.nsIn K mainGlobals "sorted" = some none)
    (n_set : PySem.W.nsIn K mainGlobals "set" = some none)
    (xa_BadLoads : PySem.W.nsIn K mainGlobals "BadLoads" = some (some (.ref C_BadLoads))) (xk_BadLoads : PySem.W.keepIn K (.ref C_BadLoads) = true) (xs_BadLoads : PySem.W.subIn K (.ref C_BadLoads) (.type "BaseException") = some true) (xt_BadLoads : PySem.W.typeIn K (.ref C_BadLoads) = some (.type "type")) (xh_BadLoads : PySem.W.hasDictIn K C_BadLoads = true)
    (z_BadLoads : PySem.W.subIn K (.ref C_BadLoads) (.ref C_BadLoads) = some true)
    (xx_BadLoads : PySem.W.excIn K C_BadLoads [.type "ValueError", .type "Exception", .type "BaseException", .type "object"] "ValueError.__new__" = true)
    (e1_BadLoads : PySem.W.findIn K (.ref C_BadLoads) "__getattribute__" = some (some (.builtin "BaseException.__getattribute__"))) (e2_BadLoads : PySem.W.findIn K (.ref C_BadLoads) "__getattr__" = some none) (e3_BadLoads : PySem.W.findIn K (.ref C_BadLoads) "__class__" = some (some (.builtin "object.__class__"))) (e4_BadLoads : PySem.W.specialIn K (.builtin "object.__class__") "__get__" = some (some (.builtin "getset_descriptor.__get__"))) (e5_BadLoads : PySem.W.takesIn K (.builtin "object.__class__") = some true) (e6_BadLoads : PySem.W.mroIn K C_BadLoads (.type "object") = some true)
    (xa_BadMost : PySem.W.nsIn K mainGlobals "BadMost" = some (some (.ref C_BadMost))) (xk_BadMost : PySem.W.keepIn K (.ref C_BadMost) = true) (xs_BadMost : PySem.W.subIn K (.ref C_BadMost) (.type "BaseException") = some true) (xt_BadMost : PySem.W.typeIn K (.ref C_BadMost) = some (.type "type")) (xh_BadMost : PySem.W.hasDictIn K C_BadMost = true)
    (xx_BadMost : PySem.W.excIn K C_BadMost [.type "ValueError", .type "Exception", .type "BaseException", .type "object"] "ValueError.__new__" = true)
    (e1_BadMost : PySem.W.findIn K (.ref C_BadMost) "__getattribute__" = some (some (.builtin "BaseException.__getattribute__"))) (e2_BadMost : PySem.W.findIn K (.ref C_BadMost) "__getattr__" = some none) (e3_BadMost : PySem.W.findIn K (.ref C_BadMost) "__class__" = some (some (.builtin "object.__class__"))) (e4_BadMost : PySem.W.specialIn K (.builtin "object.__class__") "__get__" = some (some (.builtin "getset_descriptor.__get__"))) (e5_BadMost : PySem.W.takesIn K (.builtin "object.__class__") = some true) (e6_BadMost : PySem.W.mroIn K C_BadMost (.type "object") = some true)
    (xa_BadSeats : PySem.W.nsIn K mainGlobals "BadSeats" = some (some (.ref C_BadSeats))) (xk_BadSeats : PySem.W.keepIn K (.ref C_BadSeats) = true) (xs_BadSeats : PySem.W.subIn K (.ref C_BadSeats) (.type "BaseException") = some true) (xt_BadSeats : PySem.W.typeIn K (.ref C_BadSeats) = some (.type "type")) (xh_BadSeats : PySem.W.hasDictIn K C_BadSeats = true)
    (z_BadSeats : PySem.W.subIn K (.ref C_BadSeats) (.ref C_BadSeats) = some true)
    (xx_BadSeats : PySem.W.excIn K C_BadSeats [.type "ValueError", .type "Exception", .type "BaseException", .type "object"] "ValueError.__new__" = true)
    (e1_BadSeats : PySem.W.findIn K (.ref C_BadSeats) "__getattribute__" = some (some (.builtin "BaseException.__getattribute__"))) (e2_BadSeats : PySem.W.findIn K (.ref C_BadSeats) "__getattr__" = some none) (e3_BadSeats : PySem.W.findIn K (.ref C_BadSeats) "__class__" = some (some (.builtin "object.__class__"))) (e4_BadSeats : PySem.W.specialIn K (.builtin "object.__class__") "__get__" = some (some (.builtin "getset_descriptor.__get__"))) (e5_BadSeats : PySem.W.takesIn K (.builtin "object.__class__") = some true) (e6_BadSeats : PySem.W.mroIn K C_BadSeats (.type "object") = some true)
    (xa_BadStowing : PySem.W.nsIn K mainGlobals "BadStowing" = some (some (.ref C_BadStowing))) (xk_BadStowing : PySem.W.keepIn K (.ref C_BadStowing) = true) (xs_BadStowing : PySem.W.subIn K (.ref C_BadStowing) (.type "BaseException") = some true) (xt_BadStowing : PySem.W.typeIn K (.ref C_BadStowing) = some (.type "type")) (xh_BadStowing : PySem.W.hasDictIn K C_BadStowing = true)
    (z_BadStowing : PySem.W.subIn K (.ref C_BadStowing) (.ref C_BadStowing) = some true)
    (xx_BadStowing : PySem.W.excIn K C_BadStowing [.type "ValueError", .type "Exception", .type "BaseException", .type "object"] "ValueError.__new__" = true)
    (e1_BadStowing : PySem.W.findIn K (.ref C_BadStowing) "__getattribute__" = some (some (.builtin "BaseException.__getattribute__"))) (e2_BadStowing : PySem.W.findIn K (.ref C_BadStowing) "__getattr__" = some none) (e3_BadStowing : PySem.W.findIn K (.ref C_BadStowing) "__class__" = some (some (.builtin "object.__class__"))) (e4_BadStowing : PySem.W.specialIn K (.builtin "object.__class__") "__get__" = some (some (.builtin "getset_descriptor.__get__"))) (e5_BadStowing : PySem.W.takesIn K (.builtin "object.__class__") = some true) (e6_BadStowing : PySem.W.mroIn K C_BadStowing (.type "object") = some true)
    (xa_ChestError : PySem.W.nsIn K mainGlobals "ChestError" = some (some (.ref C_ChestError))) (xk_ChestError : PySem.W.keepIn K (.ref C_ChestError) = true) (xs_ChestError : PySem.W.subIn K (.ref C_ChestError) (.type "BaseException") = some true) (xt_ChestError : PySem.W.typeIn K (.ref C_ChestError) = some (.type "type")) (xh_ChestError : PySem.W.hasDictIn K C_ChestError = true)
    (z_ChestError : PySem.W.subIn K (.ref C_ChestError) (.ref C_ChestError) = some true)
    (p_BadLoads_BadLoads : PySem.W.subIn K (.ref C_BadLoads) (.ref C_BadLoads) = some true)
    (p_BadLoads_BadSeats : PySem.W.subIn K (.ref C_BadLoads) (.ref C_BadSeats) = some false)
    (p_BadLoads_BadStowing : PySem.W.subIn K (.ref C_BadLoads) (.ref C_BadStowing) = some false)
    (p_BadLoads_ChestError : PySem.W.subIn K (.ref C_BadLoads) (.ref C_ChestError) = some true)
    (p_BadMost_BadLoads : PySem.W.subIn K (.ref C_BadMost) (.ref C_BadLoads) = some false)
    (p_BadMost_BadSeats : PySem.W.subIn K (.ref C_BadMost) (.ref C_BadSeats) = some false)
    (p_BadMost_BadStowing : PySem.W.subIn K (.ref C_BadMost) (.ref C_BadStowing) = some false)
    (p_BadMost_ChestError : PySem.W.subIn K (.ref C_BadMost) (.ref C_ChestError) = some true)
    (p_BadSeats_BadLoads : PySem.W.subIn K (.ref C_BadSeats) (.ref C_BadLoads) = some false)
    (p_BadSeats_BadSeats : PySem.W.subIn K (.ref C_BadSeats) (.ref C_BadSeats) = some true)
    (p_BadSeats_BadStowing : PySem.W.subIn K (.ref C_BadSeats) (.ref C_BadStowing) = some false)
    (p_BadSeats_ChestError : PySem.W.subIn K (.ref C_BadSeats) (.ref C_ChestError) = some true)
    (p_BadStowing_BadLoads : PySem.W.subIn K (.ref C_BadStowing) (.ref C_BadLoads) = some false)
    (p_BadStowing_BadSeats : PySem.W.subIn K (.ref C_BadStowing) (.ref C_BadSeats) = some false)
    (p_BadStowing_BadStowing : PySem.W.subIn K (.ref C_BadStowing) (.ref C_BadStowing) = some true)
    (p_BadStowing_ChestError : PySem.W.subIn K (.ref C_BadStowing) (.ref C_ChestError) = some true) :
    ∃ fd : FuncData, (∀ (s : Shared) (v : Value), BindsTo s fd ⟨[v], []⟩ [("script", v)]) ∧ ∀ base : Heap, K.In base → base.Ns mainGlobals mg → FnOk l.prog w K mg base (L2.CX l.prog w) 6 fa fd ["script"] (spLaw K) := by
  have e := hfa.symm.trans (PySem.W.mg_of X G a_law)
  cases e
  have F__law_draws := fun_mk (st := topS 27) l__law_draws c__law_draws k__law_draws
  have b__law_draws := F__law_draws.binds (ps := ["script", "many"]) fun _ _ _ _ _ _ us hl => match us, hl with | [_, _], _ => rfl
  have F__boarding := fun_mk (st := topS 22) l__boarding c__boarding k__boarding
  have b__boarding := F__boarding.binds (ps := ["loads", "stowing", "most"]) fun _ _ _ _ _ _ us hl => match us, hl with | [_, _, _], _ => rfl
  have F_ascends := fun_mk (st := topS 8) l_ascends c_ascends k_ascends
  have b_ascends := F_ascends.binds (ps := ["values"]) fun _ _ _ _ _ _ us hl => match us, hl with | [_], _ => rfl
  have F_is_whole := fun_mk (st := topS 7) l_is_whole c_is_whole k_is_whole
  have b_is_whole := F_is_whole.binds (ps := ["value", "least", "most"]) fun _ _ _ _ _ _ us hl => match us, hl with | [_, _, _], _ => rfl
  have F__check := fun_mk (st := topS 15) l__check c__check k__check
  have b__check := F__check.binds (ps := ["loads", "seats"]) fun _ _ _ _ _ _ us hl => match us, hl with | [_, _], _ => rfl
  have F__check_stowing := fun_mk (st := topS 16) l__check_stowing c__check_stowing k__check_stowing
  have b__check_stowing := F__check_stowing.binds (ps := ["loads", "seats", "stowing"]) fun _ _ _ _ _ _ us hl => match us, hl with | [_, _, _], _ => rfl
  have F_boarding := fun_mk (st := topS 24) l_boarding c_boarding k_boarding
  have b_boarding := F_boarding.binds (ps := ["loads", "seats", "stowing", "most"]) fun _ _ _ _ _ _ us hl => match us, hl with | [_, _, _, _], _ => rfl
  have F__stowings := fun_mk (st := topS 19) l__stowings c__stowings k__stowings
  have b__stowings := F__stowings.binds (ps := ["loads", "seats"]) fun _ _ _ _ _ _ us hl => match us, hl with | [_, _], _ => rfl
  have F__tilt := fun_mk (st := topS 17) l__tilt c__tilt k__tilt
  have b__tilt := F__tilt.binds (ps := ["loads", "stowing"]) fun _ _ _ _ _ _ us hl => match us, hl with | [_, _], _ => rfl
  have F_count_level := fun_mk (st := topS 21) l_count_level c_count_level k_count_level
  have b_count_level := F_count_level.binds (ps := ["loads", "seats"]) fun _ _ _ _ _ _ us hl => match us, hl with | [_, _], _ => rfl
  have F_least_tilt := fun_mk (st := topS 20) l_least_tilt c_least_tilt k_least_tilt
  have b_least_tilt := F_least_tilt.binds (ps := ["loads", "seats"]) fun _ _ _ _ _ _ us hl => match us, hl with | [_, _], _ => rfl
  have F_steadiest := fun_mk (st := topS 25) l_steadiest c_steadiest k_steadiest
  have b_steadiest := F_steadiest.binds (ps := ["loads", "seats", "stowing"]) fun _ _ _ _ _ _ us hl => match us, hl with | [_, _, _], _ => rfl
  have F_tilt_of := fun_mk (st := topS 18) l_tilt_of c_tilt_of k_tilt_of
  have b_tilt_of := F_tilt_of.binds (ps := ["loads", "seats", "stowing"]) fun _ _ _ _ _ _ us hl => match us, hl with | [_, _, _], _ => rfl
  have F__law_error := fun_mk (st := topS 31) l__law_error c__law_error k__law_error
  have b__law_error := F__law_error.binds (ps := ["way", "loads", "seats", "stowing"]) fun _ _ _ _ _ _ us hl => match us, hl with | [_, _, _, _], _ => rfl
  have F__law_every := fun_mk (st := topS 29) l__law_every c__law_every k__law_every
  have b__law_every := F__law_every.binds (ps := ["loads", "seats"]) fun _ _ _ _ _ _ us hl => match us, hl with | [_, _], _ => rfl
  have F__law_seats := fun_mk (st := topS 28) l__law_seats c__law_seats k__law_seats
  have b__law_seats := F__law_seats.binds (ps := ["draws", "many"]) fun _ _ _ _ _ _ us hl => match us, hl with | [_, _], _ => rfl
  have F__law_sum := fun_mk (st := topS 30) l__law_sum c__law_sum k__law_sum
  have b__law_sum := F__law_sum.binds (ps := ["loads", "stowing"]) fun _ _ _ _ _ _ us hl => match us, hl with | [_, _], _ => rfl
  have F_law := fun_mk (st := topS 32) l_law c_law k_law
  have b_law := F_law.binds (ps := ["script"]) fun _ _ _ _ _ _ us hl => match us, hl with | [_], _ => rfl
  exact ⟨_, fun s v => .of_eq rfl, fun base _ _ => FnOk.imp (ok_law (T := {
    a__law_draws := f__law_draws, d__law_draws := _, g__law_draws := PySem.W.mg_of X G a__law_draws, F__law_draws := F__law_draws, b__law_draws := b__law_draws,
    a__boarding := f__boarding, d__boarding := _, g__boarding := PySem.W.mg_of X G a__boarding, F__boarding := F__boarding, b__boarding := b__boarding,
    a_ascends := f_ascends, d_ascends := _, g_ascends := PySem.W.mg_of X G a_ascends, F_ascends := F_ascends, b_ascends := b_ascends,
    a_is_whole := f_is_whole, d_is_whole := _, g_is_whole := PySem.W.mg_of X G a_is_whole, F_is_whole := F_is_whole, b_is_whole := b_is_whole,
    a__check := f__check, d__check := _, g__check := PySem.W.mg_of X G a__check, F__check := F__check, b__check := b__check,
    a__check_stowing := f__check_stowing, d__check_stowing := _, g__check_stowing := PySem.W.mg_of X G a__check_stowing, F__check_stowing := F__check_stowing, b__check_stowing := b__check_stowing,
    a_boarding := f_boarding, d_boarding := _, g_boarding := PySem.W.mg_of X G a_boarding, F_boarding := F_boarding, b_boarding := b_boarding,
    a__stowings := f__stowings, d__stowings := _, g__stowings := PySem.W.mg_of X G a__stowings, F__stowings := F__stowings, b__stowings := b__stowings,
    a__tilt := f__tilt, d__tilt := _, g__tilt := PySem.W.mg_of X G a__tilt, F__tilt := F__tilt, b__tilt := b__tilt,
    a_count_level := f_count_level, d_count_level := _, g_count_level := PySem.W.mg_of X G a_count_level, F_count_level := F_count_level, b_count_level := b_count_level,
    a_least_tilt := f_least_tilt, d_least_tilt := _, g_least_tilt := PySem.W.mg_of X G a_least_tilt, F_least_tilt := F_least_tilt, b_least_tilt := b_least_tilt,
    a_steadiest := f_steadiest, d_steadiest := _, g_steadiest := PySem.W.mg_of X G a_steadiest, F_steadiest := F_steadiest, b_steadiest := b_steadiest,
    a_tilt_of := f_tilt_of, d_tilt_of := _, g_tilt_of := PySem.W.mg_of X G a_tilt_of, F_tilt_of := F_tilt_of, b_tilt_of := b_tilt_of,
    a__law_error := f__law_error, d__law_error := _, g__law_error := PySem.W.mg_of X G a__law_error, F__law_error := F__law_error, b__law_error := b__law_error,
    a__law_every := f__law_every, d__law_every := _, g__law_every := PySem.W.mg_of X G a__law_every, F__law_every := F__law_every, b__law_every := b__law_every,
    a__law_seats := f__law_seats, d__law_seats := _, g__law_seats := PySem.W.mg_of X G a__law_seats, F__law_seats := F__law_seats, b__law_seats := b__law_seats,
    a__law_sum := f__law_sum, d__law_sum := _, g__law_sum := PySem.W.mg_of X G a__law_sum, F__law_sum := F__law_sum, b__law_sum := b__law_sum,
    a_law := fa, d_law := _, g_law := PySem.W.mg_of X G a_law, F_law := F_law, b_law := b_law,
    n_range := PySem.W.mg_none_of X G n_range,
    n_tuple := PySem.W.mg_none_of X G n_tuple,
    n_min := PySem.W.mg_none_of X G n_min,
    n_len := PySem.W.mg_none_of X G n_len,
    n_int := PySem.W.mg_none_of X G n_int,
    n_max := PySem.W.mg_none_of X G n_max,
    n_list := PySem.W.mg_none_of X G n_list,
    n_abs := PySem.W.mg_none_of X G n_abs,
    n_isinstance := PySem.W.mg_none_of X G n_isinstance,
    v_MOST_TILT := ⟨_, PySem.W.mg_of X G v_MOST_TILT⟩,
    n_all := PySem.W.mg_none_of X G n_all,
    v_MOST_FAR := ⟨_, PySem.W.mg_of X G v_MOST_FAR⟩,
    v_MOST_SEATS := ⟨_, PySem.W.mg_of X G v_MOST_SEATS⟩,
    v_MOST_LOADS := ⟨_, PySem.W.mg_of X G v_MOST_LOADS⟩,
    v_MOST_HEAVY := ⟨_, PySem.W.mg_of X G v_MOST_HEAVY⟩,
    n_zip := PySem.W.mg_none_of X G n_zip,
    n_bool := PySem.W.mg_none_of X G n_bool,
    n_sum := PySem.W.mg_none_of X G n_sum,
    n_sorted := PySem.W.mg_none_of X G n_sorted,
    n_set := PySem.W.mg_none_of X G n_set,
    C_BadLoads := C_BadLoads, c_BadLoads := PySem.W.mg_of X G xa_BadLoads, k_BadLoads := xk_BadLoads, s_BadLoads := xs_BadLoads, t_BadLoads := xt_BadLoads, h_BadLoads := xh_BadLoads,
    z_BadLoads := z_BadLoads,
    x_BadLoads := xx_BadLoads,
    e_BadLoads := ⟨e1_BadLoads, e2_BadLoads, xs_BadLoads, xh_BadLoads, e3_BadLoads, e4_BadLoads, e5_BadLoads, e6_BadLoads⟩,
    C_BadMost := C_BadMost, c_BadMost := PySem.W.mg_of X G xa_BadMost, k_BadMost := xk_BadMost, s_BadMost := xs_BadMost, t_BadMost := xt_BadMost, h_BadMost := xh_BadMost,
    x_BadMost := xx_BadMost,
    e_BadMost := ⟨e1_BadMost, e2_BadMost, xs_BadMost, xh_BadMost, e3_BadMost, e4_BadMost, e5_BadMost, e6_BadMost⟩,
    C_BadSeats := C_BadSeats, c_BadSeats := PySem.W.mg_of X G xa_BadSeats, k_BadSeats := xk_BadSeats, s_BadSeats := xs_BadSeats, t_BadSeats := xt_BadSeats, h_BadSeats := xh_BadSeats,
    z_BadSeats := z_BadSeats,
    x_BadSeats := xx_BadSeats,
    e_BadSeats := ⟨e1_BadSeats, e2_BadSeats, xs_BadSeats, xh_BadSeats, e3_BadSeats, e4_BadSeats, e5_BadSeats, e6_BadSeats⟩,
    C_BadStowing := C_BadStowing, c_BadStowing := PySem.W.mg_of X G xa_BadStowing, k_BadStowing := xk_BadStowing, s_BadStowing := xs_BadStowing, t_BadStowing := xt_BadStowing, h_BadStowing := xh_BadStowing,
    z_BadStowing := z_BadStowing,
    x_BadStowing := xx_BadStowing,
    e_BadStowing := ⟨e1_BadStowing, e2_BadStowing, xs_BadStowing, xh_BadStowing, e3_BadStowing, e4_BadStowing, e5_BadStowing, e6_BadStowing⟩,
    C_ChestError := C_ChestError, c_ChestError := PySem.W.mg_of X G xa_ChestError, k_ChestError := xk_ChestError, s_ChestError := xs_ChestError, t_ChestError := xt_ChestError, h_ChestError := xh_ChestError,
    z_ChestError := z_ChestError,
    p_BadLoads_BadLoads := p_BadLoads_BadLoads,
    p_BadLoads_BadSeats := p_BadLoads_BadSeats,
    p_BadLoads_BadStowing := p_BadLoads_BadStowing,
    p_BadLoads_ChestError := p_BadLoads_ChestError,
    p_BadMost_BadLoads := p_BadMost_BadLoads,
    p_BadMost_BadSeats := p_BadMost_BadSeats,
    p_BadMost_BadStowing := p_BadMost_BadStowing,
    p_BadMost_ChestError := p_BadMost_ChestError,
    p_BadSeats_BadLoads := p_BadSeats_BadLoads,
    p_BadSeats_BadSeats := p_BadSeats_BadSeats,
    p_BadSeats_BadStowing := p_BadSeats_BadStowing,
    p_BadSeats_ChestError := p_BadSeats_ChestError,
    p_BadStowing_BadLoads := p_BadStowing_BadLoads,
    p_BadStowing_BadSeats := p_BadStowing_BadSeats,
    p_BadStowing_BadStowing := p_BadStowing_BadStowing,
    p_BadStowing_ChestError := p_BadStowing_ChestError })) (law_imp law_true)⟩
end Nk52
open PySem PySem.W PyProof.Rows
set_option maxHeartbeats 0 in
theorem PySem.Challenge.cw_chestwright_k52_whole_tilts_holds : PySem.Challenge.rw_chestwright_k52_whole_tilts.Holds := by
  w_on; o_law; k_head; (case hw => w_witness2)
  k_fill
  refine L2.walk_of (l := PySem.Challenge.rw_chestwright_k52_whole_tilts) (n := 63) (k := 6) (x := "script") (CX := fun w => L2.CX (PySem.Challenge.rw_chestwright_k52_whole_tilts).prog w) (sp := fun w => Den.spLaw _) rfl (by decide) rfl ⟨rfl, by decide, by decide⟩ (fun w h Y => PySem.W.kIn_of Y) ?F (fun _ _ a ns hl _ hS => ⟨a, ns, rfl, hS, hl, fun _ => rfl⟩) (fun _ _ _ _ _ h => Den.cx_never h)
  case F =>
    intro w mg fa h KX G hmg
    refine' Nk52.all_mk KX G hmg ?a__law_draws ?l__law_draws ?c__law_draws ?k__law_draws ?a__boarding ?l__boarding ?c__boarding ?k__boarding ?a_ascends ?l_ascends ?c_ascends ?k_ascends ?a_is_whole ?l_is_whole ?c_is_whole ?k_is_whole ?a__check ?l__check ?c__check ?k__check ?a__check_stowing ?l__check_stowing ?c__check_stowing ?k__check_stowing ?a_boarding ?l_boarding ?c_boarding ?k_boarding ?a__stowings ?l__stowings ?c__stowings ?k__stowings ?a__tilt ?l__tilt ?c__tilt ?k__tilt ?a_count_level ?l_count_level ?c_count_level ?k_count_level ?a_least_tilt ?l_least_tilt ?c_least_tilt ?k_least_tilt ?a_steadiest ?l_steadiest ?c_steadiest ?k_steadiest ?a_tilt_of ?l_tilt_of ?c_tilt_of ?k_tilt_of ?a__law_error ?l__law_error ?c__law_error ?k__law_error ?a__law_every ?l__law_every ?c__law_every ?k__law_every ?a__law_seats ?l__law_seats ?c__law_seats ?k__law_seats ?a__law_sum ?l__law_sum ?c__law_sum ?k__law_sum ?a_law ?l_law ?c_law ?k_law ?n_range ?n_tuple ?n_min ?n_len ?n_int ?n_max ?n_list ?n_abs ?n_isinstance ?v_MOST_TILT ?n_all ?v_MOST_FAR ?v_MOST_SEATS ?v_MOST_LOADS ?v_MOST_HEAVY ?n_zip ?n_bool ?n_sum ?n_sorted ?n_set ?xa_BadLoads ?xk_BadLoads ?xs_BadLoads ?xt_BadLoads ?xh_BadLoads ?z_BadLoads ?xx_BadLoads ?e1_BadLoads ?e2_BadLoads ?e3_BadLoads ?e4_BadLoads ?e5_BadLoads ?e6_BadLoads ?xa_BadMost ?xk_BadMost ?xs_BadMost ?xt_BadMost ?xh_BadMost ?xx_BadMost ?e1_BadMost ?e2_BadMost ?e3_BadMost ?e4_BadMost ?e5_BadMost ?e6_BadMost ?xa_BadSeats ?xk_BadSeats ?xs_BadSeats ?xt_BadSeats ?xh_BadSeats ?z_BadSeats ?xx_BadSeats ?e1_BadSeats ?e2_BadSeats ?e3_BadSeats ?e4_BadSeats ?e5_BadSeats ?e6_BadSeats ?xa_BadStowing ?xk_BadStowing ?xs_BadStowing ?xt_BadStowing ?xh_BadStowing ?z_BadStowing ?xx_BadStowing ?e1_BadStowing ?e2_BadStowing ?e3_BadStowing ?e4_BadStowing ?e5_BadStowing ?e6_BadStowing ?xa_ChestError ?xk_ChestError ?xs_ChestError ?xt_ChestError ?xh_ChestError ?z_ChestError ?p_BadLoads_BadLoads ?p_BadLoads_BadSeats ?p_BadLoads_BadStowing ?p_BadLoads_ChestError ?p_BadMost_BadLoads ?p_BadMost_BadSeats ?p_BadMost_BadStowing ?p_BadMost_ChestError ?p_BadSeats_BadLoads ?p_BadSeats_BadSeats ?p_BadSeats_BadStowing ?p_BadSeats_ChestError ?p_BadStowing_BadLoads ?p_BadStowing_BadSeats ?p_BadStowing_BadStowing ?p_BadStowing_ChestError
    (case a__law_draws => k_is)
    (case l__law_draws => k_is)
    (case c__law_draws => k_is)
    (case k__law_draws => k_is)
    (case a__boarding => k_is)
    (case l__boarding => k_is)
    (case c__boarding => k_is)
    (case k__boarding => k_is)
    (case a_ascends => k_is)
    (case l_ascends => k_is)
    (case c_ascends => k_is)
    (case k_ascends => k_is)
    (case a_is_whole => k_is)
    (case l_is_whole => k_is)
    (case c_is_whole => k_is)
    (case k_is_whole => k_is)
    (case a__check => k_is)
    (case l__check => k_is)
    (case c__check => k_is)
    (case k__check => k_is)
    (case a__check_stowing => k_is)
    (case l__check_stowing => k_is)
    (case c__check_stowing => k_is)
    (case k__check_stowing => k_is)
    (case a_boarding => k_is)
    (case l_boarding => k_is)
    (case c_boarding => k_is)
    (case k_boarding => k_is)
    (case a__stowings => k_is)
    (case l__stowings => k_is)
    (case c__stowings => k_is)
    (case k__stowings => k_is)
    (case a__tilt => k_is)
    (case l__tilt => k_is)
    (case c__tilt => k_is)
    (case k__tilt => k_is)
    (case a_count_level => k_is)
    (case l_count_level => k_is)
    (case c_count_level => k_is)
    (case k_count_level => k_is)
    (case a_least_tilt => k_is)
    (case l_least_tilt => k_is)
    (case c_least_tilt => k_is)
    (case k_least_tilt => k_is)
    (case a_steadiest => k_is)
    (case l_steadiest => k_is)
    (case c_steadiest => k_is)
    (case k_steadiest => k_is)
    (case a_tilt_of => k_is)
    (case l_tilt_of => k_is)
    (case c_tilt_of => k_is)
    (case k_tilt_of => k_is)
    (case a__law_error => k_is)
    (case l__law_error => k_is)
    (case c__law_error => k_is)
    (case k__law_error => k_is)
    (case a__law_every => k_is)
    (case l__law_every => k_is)
    (case c__law_every => k_is)
    (case k__law_every => k_is)
    (case a__law_seats => k_is)
    (case l__law_seats => k_is)
    (case c__law_seats => k_is)
    (case k__law_seats => k_is)
    (case a__law_sum => k_is)
    (case l__law_sum => k_is)
    (case c__law_sum => k_is)
    (case k__law_sum => k_is)
    (case a_law => k_is)
    (case l_law => k_is)
    (case c_law => k_is)
    (case k_law => k_is)
    (case n_range => k_is)
    (case n_tuple => k_is)
    (case n_min => k_is)
    (case n_len => k_is)
    (case n_int => k_is)
    (case n_max => k_is)
    (case n_list => k_is)
    (case n_abs => k_is)
    (case n_isinstance => k_is)
    (case v_MOST_TILT => k_is)
    (case n_all => k_is)
    (case v_MOST_FAR => k_is)
    (case v_MOST_SEATS => k_is)
    (case v_MOST_LOADS => k_is)
    (case v_MOST_HEAVY => k_is)
    (case n_zip => k_is)
    (case n_bool => k_is)
    (case n_sum => k_is)
    (case n_sorted => k_is)
    (case n_set => k_is)
    (case xa_BadLoads => k_is)
    (case xk_BadLoads => k_is)
    (case xs_BadLoads => k_is)
    (case xt_BadLoads => k_is)
    (case xh_BadLoads => k_is)
    (case z_BadLoads => first | rfl | k_is)
    (case xx_BadLoads => k_exc)
    (case e1_BadLoads => k_is)
    (case e2_BadLoads => k_is)
    (case e3_BadLoads => k_is)
    (case e4_BadLoads => k_is)
    (case e5_BadLoads => k_is)
    (case e6_BadLoads => k_is)
    (case xa_BadMost => k_is)
    (case xk_BadMost => k_is)
    (case xs_BadMost => k_is)
    (case xt_BadMost => k_is)
    (case xh_BadMost => k_is)
    (case xx_BadMost => k_exc)
    (case e1_BadMost => k_is)
    (case e2_BadMost => k_is)
    (case e3_BadMost => k_is)
    (case e4_BadMost => k_is)
    (case e5_BadMost => k_is)
    (case e6_BadMost => k_is)
    (case xa_BadSeats => k_is)
    (case xk_BadSeats => k_is)
    (case xs_BadSeats => k_is)
    (case xt_BadSeats => k_is)
    (case xh_BadSeats => k_is)
    (case z_BadSeats => first | rfl | k_is)
    (case xx_BadSeats => k_exc)
    (case e1_BadSeats => k_is)
    (case e2_BadSeats => k_is)
    (case e3_BadSeats => k_is)
    (case e4_BadSeats => k_is)
    (case e5_BadSeats => k_is)
    (case e6_BadSeats => k_is)
    (case xa_BadStowing => k_is)
    (case xk_BadStowing => k_is)
    (case xs_BadStowing => k_is)
    (case xt_BadStowing => k_is)
    (case xh_BadStowing => k_is)
    (case z_BadStowing => first | rfl | k_is)
    (case xx_BadStowing => k_exc)
    (case e1_BadStowing => k_is)
    (case e2_BadStowing => k_is)
    (case e3_BadStowing => k_is)
    (case e4_BadStowing => k_is)
    (case e5_BadStowing => k_is)
    (case e6_BadStowing => k_is)
    (case xa_ChestError => k_is)
    (case xk_ChestError => k_is)
    (case xs_ChestError => k_is)
    (case xt_ChestError => k_is)
    (case xh_ChestError => k_is)
    (case z_ChestError => first | rfl | k_is)
    (case p_BadLoads_BadLoads => k_is)
    (case p_BadLoads_BadSeats => k_is)
    (case p_BadLoads_BadStowing => k_is)
    (case p_BadLoads_ChestError => k_is)
    (case p_BadMost_BadLoads => k_is)
    (case p_BadMost_BadSeats => k_is)
    (case p_BadMost_BadStowing => k_is)
    (case p_BadMost_ChestError => k_is)
    (case p_BadSeats_BadLoads => k_is)
    (case p_BadSeats_BadSeats => k_is)
    (case p_BadSeats_BadStowing => k_is)
    (case p_BadSeats_ChestError => k_is)
    (case p_BadStowing_BadLoads => k_is)
    (case p_BadStowing_BadSeats => k_is)
    (case p_BadStowing_BadStowing => k_is)
    (case p_BadStowing_ChestError => k_is)
