import PyProof.Rows.All
import Wide.All
import OpenK.AllK
import Wide.FinOn
import HandS.ForList
import HandS.Base
import HandS.Call
import HandS.List
import HandS.Comp
import HandS.Dict
import HandS.Iter
import HandS.Text
import HandS.Exc
import HandS.TryOnly
import HandS.ExcOwn
import HandS.Words
import HandS.WordsList
import HandS.Style
import HandS.Wide
import HandS.Zip
import HandS.IsInst
import HandS.ExcIs
import HandS.RevRange
import KE.SortData
import HandS.Conv
import HandS.TupAny
import HandS.Rev
import HandS.WordsExc
import HandS.Ends
import PySem.Challenge.RW_felltimber_k68_orders_by_sizes
set_option Elab.async false
set_option linter.all false
set_option maxRecDepth 100000
section
set_option maxHeartbeats 8000000
/-! Data as trees, a store of what may change, and how both lie in the tracked heap. -/
namespace Fel
open PySem L2

/-- a value: immutable data as a tree, all else by its address -/
inductive D where
  | non | bl (b : Bool) | int (i : Int) | str (x : Str) | tup (ds : List D) | ref (a : Addr) | ty (n : String) | lk (ds : List D)
  deriving Inhabited

/-- what may change -/
inductive Ob where
  | lst (ds : List D)
  | dic (kvs : List (D × D))
  | ins (C : Addr) (fs : List (Str × D))

abbrev Store := Addr → Option Ob
abbrev Rho := List (Option D)

def Store.upd (S : Store) (a : Addr) (o : Ob) : Store := fun b => if b = a then some o else S b
@[simp] theorem Store.upd_same {S : Store} {a : Addr} {o : Ob} : S.upd a o a = some o := by unfold Store.upd; rw [if_pos rfl]
theorem Store.upd_ne {S : Store} {a b : Addr} {o : Ob} (h : b ≠ a) : S.upd a o b = S b := by unfold Store.upd; rw [if_neg h]
theorem Store.upd_upd {S : Store} {a : Addr} {o u : Ob} : (S.upd a o).upd a u = S.upd a u := by
  funext b; unfold Store.upd; split <;> rfl

/-- a list that nobody writes: locked, or of the written part -/
def LkL (K : PySem.W.Frag) (H : Hp) (a : Addr) (xs : List V) : Prop :=
  (∃ o, H a = some (.frz o (.lst xs))) ∨ ∃ (o : Obj) (its : Array Value) (n : Nat), K.lookup a = some o ∧ o.cls = .type "list" ∧ o.dict = none ∧ o.data = .seq its n ∧ its.size ≤ sizeLine ∧ Vals xs its.toList
theorem LkL.sq {K : PySem.W.Frag} {H : Hp} {a : Addr} {xs : List V} (h : LkL K H a xs) : SqL K H a xs := h.elim (fun z => .inl (.inr z)) .inr
/-- what never changes stays -/
structure Keep (K : PySem.W.Frag) (H H1 : Hp) : Prop where
  t : ∀ a xs, SqT K H a xs → SqT K H1 a xs
  l : ∀ a xs, LkL K H a xs → LkL K H1 a xs
theorem Keep.refl {K : PySem.W.Frag} {H : Hp} : Keep K H H := ⟨fun _ _ h => h, fun _ _ h => h⟩
theorem Keep.trans {K : PySem.W.Frag} {H H1 H2 : Hp} (a : Keep K H H1) (b : Keep K H1 H2) : Keep K H H2 := ⟨fun x xs h => b.t x xs (a.t x xs h), fun x xs h => b.l x xs (a.l x xs h)⟩
mutual
inductive RepV (K : PySem.W.Frag) (H : Hp) : V → D → Prop
  | non : RepV K H .non .non
  | bl (b : Bool) : RepV K H (.bl b) (.bl b)
  | int (i : Int) : RepV K H (.int i) (.int i)
  | str (x : Str) : RepV K H (.str x) (.str x)
  | ref (a : Addr) : RepV K H (.ref a) (.ref a)
  | ty (n : String) : RepV K H (.ty n) (.ty n)
  | tup {a : Addr} {xs : List V} {ds : List D} : SqT K H a xs → RepVs K H xs ds → RepV K H (.ref a) (.tup ds)
  | lk {a : Addr} {xs : List V} {ds : List D} : LkL K H a xs → RepVs K H xs ds → RepV K H (.ref a) (.lk ds)
inductive RepVs (K : PySem.W.Frag) (H : Hp) : List V → List D → Prop
  | nil : RepVs K H [] []
  | cons {v : V} {vs : List V} {d : D} {ds : List D} : RepV K H v d → RepVs K H vs ds → RepVs K H (v :: vs) (d :: ds)
end

/-- fields, entries -/
inductive RepF {κ : Type} (K : PySem.W.Frag) (H : Hp) : List (κ × V) → List (κ × D) → Prop
  | nil : RepF K H [] []
  | cons {k : κ} {v : V} {d : D} {r : List (κ × V)} {q : List (κ × D)} : RepV K H v d → RepF K H r q → RepF K H ((k, v) :: r) ((k, d) :: q)

/-- a key that is an int or a text -/
def kD : Key → D
  | .inl i => .int i
  | .inr x => .str x

/-- what stands at a -/
def RepO (K : PySem.W.Frag) (H : Hp) (a : Addr) : Ob → Prop
  | .lst ds => ∃ vs, H a = some (.lst vs) ∧ RepVs K H vs ds
  | .dic kvs => ∃ kvs' : List (Key × V), ∃ kds : List (Key × D), H a = some (.dK kvs') ∧ RepF K H kvs' kds ∧ kvs = kds.map fun p => (kD p.1, p.2)
  | .ins C fs => ∃ dx fs', H a = some (.ins C dx fs') ∧ RepF K H fs' fs

def RepS (K : PySem.W.Frag) (H : Hp) (S : Store) : Prop := ∀ a o, S a = some o → RepO K H a o
def RepL (K : PySem.W.Frag) (H : Hp) (σ : St) (ρ : Rho) : Prop := σ.length = ρ.length ∧ ∀ (i : Nat) d, ρ[i]? = some (some d) → ∃ v, σ[i]? = some (some v) ∧ RepV K H v d

/-- later: tuples stay, what is tracked stays tracked, what is known was known or is new -/
structure Ext (K : PySem.W.Frag) (H : Hp) (S : Store) (H' : Hp) (S' : Store) : Prop where
  tup : Keep K H H'
  dom : ∀ a, H' a = none → H a = none
  new : ∀ a, H a ≠ none → S a = none → S' a = none
  frm : ∀ a, H a ≠ none → S a = none → H' a = H a

section
variable {K : PySem.W.Frag} {H H1 H2 : Hp} {S S1 S2 : Store}
theorem Ext.refl : Ext K H S H S := ⟨.refl, fun _ h => h, fun _ _ h => h, fun _ _ _ => rfl⟩
theorem Ext.trans (a : Ext K H S H1 S1) (b : Ext K H1 S1 H2 S2) : Ext K H S H2 S2 :=
  ⟨a.tup.trans b.tup, fun x h => a.dom x (b.dom x h), fun x h1 h2 => b.new x (fun z => h1 (a.dom x z)) (a.new x h1 h2), fun x h1 h2 => (b.frm x (fun z => h1 (a.dom x z)) (a.new x h1 h2)).trans (a.frm x h1 h2)⟩
mutual
theorem RepV.ext (e : Keep K H H1) : ∀ {v : V} {d : D}, RepV K H v d → RepV K H1 v d
  | _, _, .non => .non
  | _, _, .bl b => .bl b
  | _, _, .int i => .int i
  | _, _, .str x => .str x
  | _, _, .ref a => .ref a
  | _, _, .ty n => .ty n
  | _, _, .tup h r => .tup (e.t _ _ h) (RepVs.ext e r)
  | _, _, .lk h r => .lk (e.l _ _ h) (RepVs.ext e r)
theorem RepVs.ext (e : Keep K H H1) : ∀ {vs : List V} {ds : List D}, RepVs K H vs ds → RepVs K H1 vs ds
  | _, _, .nil => .nil
  | _, _, .cons h r => .cons (RepV.ext e h) (RepVs.ext e r)
end
theorem RepF.ext {κ : Type} (e : Keep K H H1) : ∀ {vs : List (κ × V)} {ds : List (κ × D)}, RepF K H vs ds → RepF K H1 vs ds
  | _, _, .nil => .nil
  | _, _, .cons h r => .cons (RepV.ext e h) (RepF.ext e r)
theorem RepL.ext {σ : St} {ρ : Rho} (e : Keep K H H1) (r : RepL K H σ ρ) : RepL K H1 σ ρ :=
  ⟨r.1, fun i d h => let ⟨v, h1, h2⟩ := r.2 i d h; ⟨v, h1, h2.ext e⟩⟩
theorem RepO.ext {a : Addr} {o : Ob} (e : Keep K H H1) (h : H1 a = H a) (r : RepO K H a o) : RepO K H1 a o := by
  cases o with
  | lst ds => obtain ⟨vs, h1, h2⟩ := r; exact ⟨vs, h.trans h1, h2.ext e⟩
  | dic kvs => obtain ⟨x, y, h1, h2, h3⟩ := r; exact ⟨x, y, h.trans h1, h2.ext e, h3⟩
  | ins C fs => obtain ⟨dx, fs', h1, h2⟩ := r; exact ⟨dx, fs', h.trans h1, h2.ext e⟩
theorem RepO.some {a : Addr} {o : Ob} (r : RepO K H a o) : ∃ u, H a = some u := by
  cases o with
  | lst ds => obtain ⟨vs, h1, h2⟩ := r; exact ⟨_, h1⟩
  | dic kvs => obtain ⟨x, y, h1, h2, h3⟩ := r; exact ⟨_, h1⟩
  | ins C fs => obtain ⟨dx, fs', h1, h2⟩ := r; exact ⟨_, h1⟩
theorem RepS.none {a : Addr} (r : RepS K H S) (h : H a = none) : S a = none := by
  cases e : S a with
  | none => rfl
  | some o => obtain ⟨u, z⟩ := (r a o e).some; rw [h] at z; cases z
theorem RepVs.length {vs : List V} {ds : List D} (r : RepVs K H vs ds) : vs.length = ds.length := by
  induction vs generalizing ds with
  | nil => cases r; rfl
  | cons v vs ih => cases r with | cons h r => simp [ih r]
theorem RepVs.get : ∀ {vs : List V} {ds : List D} {i : Nat} {d : D}, RepVs K H vs ds → ds[i]? = some d → ∃ v, vs[i]? = some v ∧ RepV K H v d
  | _, _, _, _, .nil, h => by simp at h
  | _, _, 0, _, .cons h r, e => by simp at e; subst e; exact ⟨_, rfl, h⟩
  | _, _, i + 1, _, .cons h r, e => by
    obtain ⟨v, h1, h2⟩ := RepVs.get (i := i) r (by simpa using e)
    exact ⟨v, by simpa using h1, h2⟩
theorem RepVs.get' : ∀ {vs : List V} {ds : List D} {i : Nat} {v : V}, RepVs K H vs ds → vs[i]? = some v → ∃ d, ds[i]? = some d ∧ RepV K H v d
  | _, _, _, _, .nil, h => by simp at h
  | _, _, 0, _, .cons h r, e => by simp at e; subst e; exact ⟨_, rfl, h⟩
  | _, _, i + 1, _, .cons h r, e => by
    obtain ⟨v, h1, h2⟩ := RepVs.get' (i := i) r (by simpa using e)
    exact ⟨v, by simpa using h1, h2⟩
theorem RepVs.append : ∀ {vs vs' : List V} {ds ds' : List D}, RepVs K H vs ds → RepVs K H vs' ds' → RepVs K H (vs ++ vs') (ds ++ ds')
  | _, _, _, _, .nil, s => s
  | _, _, _, _, .cons h r, s => .cons h (r.append s)
theorem RepVs.set : ∀ {vs : List V} {ds : List D} {v : V} {d : D} (i : Nat), RepVs K H vs ds → RepV K H v d → RepVs K H (vs.set i v) (ds.set i d)
  | _, _, _, _, _, .nil, _ => .nil
  | _, _, _, _, 0, .cons h r, q => .cons q r
  | _, _, _, _, i + 1, .cons h r, q => .cons h (RepVs.set i r q)
theorem RepVs.take : ∀ {vs : List V} {ds : List D} (n : Nat), RepVs K H vs ds → RepVs K H (vs.take n) (ds.take n)
  | _, _, 0, _ => .nil
  | _, _, _ + 1, .nil => .nil
  | _, _, n + 1, .cons r t => .cons r (RepVs.take n t)
theorem RepVs.drop : ∀ {vs : List V} {ds : List D} (n : Nat), RepVs K H vs ds → RepVs K H (vs.drop n) (ds.drop n)
  | _, _, 0, r => r
  | _, _, _ + 1, .nil => .nil
  | _, _, n + 1, .cons _ t => RepVs.drop n t
theorem RepVs.dropLast {vs : List V} {ds : List D} (r : RepVs K H vs ds) : RepVs K H vs.dropLast ds.dropLast := by
  rw [List.dropLast_eq_take, List.dropLast_eq_take, r.length]; exact r.take _
theorem RepVs.reverse : ∀ {vs : List V} {ds : List D}, RepVs K H vs ds → RepVs K H vs.reverse ds.reverse
  | _, _, .nil => .nil
  | _, _, .cons h r => by rw [List.reverse_cons, List.reverse_cons]; exact r.reverse.append (.cons h .nil)
theorem RepVs.int : ∀ {vs : List V} {ns : List Int}, RepVs K H vs (ns.map D.int) → vs = ns.map V.int
  | _, [], .nil => rfl
  | _, _ :: ns, .cons h r => by cases h; rw [RepVs.int r]; rfl
theorem RepVs.ofInt : ∀ ns : List Int, RepVs K H (ns.map V.int) (ns.map D.int)
  | [] => .nil
  | n :: ns => .cons (.int n) (RepVs.ofInt ns)
theorem RepVs.bl : ∀ {vs : List V} {ns : List Bool}, RepVs K H vs (ns.map D.bl) → vs = ns.map V.bl
  | _, [], .nil => rfl
  | _, _ :: ns, .cons h r => by cases h; rw [RepVs.bl r]; rfl
theorem RepVs.str : ∀ {vs : List V} {ns : List Str}, RepVs K H vs (ns.map D.str) → vs = ns.map V.str
  | _, [], .nil => rfl
  | _, _ :: ns, .cons h r => by cases h; rw [RepVs.str r]; rfl
theorem RepVs.ofStr : ∀ ns : List Str, RepVs K H (ns.map V.str) (ns.map D.str)
  | [] => .nil
  | n :: ns => .cons (.str n) (RepVs.ofStr ns)

/-- a new object -/
theorem sqT_upd {p : Addr} {o : HO} (hp : H p = Option.none) : Keep K H (L2.upd H p o) := ⟨fun a xs h => by
  rcases h with (h | ⟨u, h⟩) | h
  · exact .inl (.inl (by rw [L2.upd_ne (L2.ne_of_none h hp)]; exact h))
  · exact .inl (.inr ⟨u, by rw [L2.upd_ne (L2.ne_of_none h hp)]; exact h⟩)
  · exact .inr h, fun a xs h => by
  rcases h with ⟨u, h⟩ | h
  · exact .inl ⟨u, by rw [L2.upd_ne (L2.ne_of_none h hp)]; exact h⟩
  · exact .inr h⟩
/-- an object that is no tuple written -/
theorem sqT_write {p : Addr} {o u : HO} (hp : H p = Option.some u) (hm : Mut (Option.some u)) : Keep K H (L2.upd H p o) := by
  have ne : ∀ {a : Addr} {w : HO}, H a = Option.some w → ¬ Mut (Option.some w) → a ≠ p := fun h1 h2 z => by subst z; rw [hp] at h1; cases h1; exact h2 hm
  refine ⟨fun a xs h => ?_, fun a xs h => ?_⟩
  · rcases h with (h | ⟨u, h⟩) | h
    · exact .inl (.inl (by rw [L2.upd_ne (ne h (fun z => z))]; exact h))
    · exact .inl (.inr ⟨u, by rw [L2.upd_ne (ne h (fun z => z))]; exact h⟩)
    · exact .inr h
  · rcases h with ⟨u, h⟩ | h
    · exact .inl ⟨u, by rw [L2.upd_ne (ne h (fun z => z))]; exact h⟩
    · exact .inr h
theorem Ext.alloc {p : Addr} {o : HO} (hp : H p = Option.none) {S' : Store} (hs : ∀ a, a ≠ p → S a = Option.none → S' a = Option.none) : Ext K H S (L2.upd H p o) S' :=
  ⟨sqT_upd hp, fun a h => by
    by_cases e : a = p
    · subst e; exact hp
    · rw [L2.upd_ne e] at h; exact h, fun a h1 h2 => hs a (fun z => h1 (by rw [z]; exact hp)) h2, fun a h1 h2 => L2.upd_ne fun z => h1 (by rw [z]; exact hp)⟩
theorem Ext.write {p : Addr} {o u : HO} (hp : H p = Option.some u) (hm : Mut (Option.some u)) (hSp : S p ≠ Option.none) {S' : Store} (hs : ∀ a, S a = Option.none → S' a = Option.none) : Ext K H S (L2.upd H p o) S' :=
  ⟨sqT_write hp hm, fun a h => by
    by_cases e : a = p
    · subst e; rw [L2.upd_same] at h; cases h
    · rw [L2.upd_ne e] at h; exact h, fun a h1 h2 => hs a h2, fun a h1 h2 => L2.upd_ne fun z => hSp (by rw [← z]; exact h2)⟩
theorem RepS.alloc {p : Addr} {o : HO} {u : Ob} (r : RepS K H S) (hp : H p = Option.none) (n : RepO K (L2.upd H p o) p u) : RepS K (L2.upd H p o) (S.upd p u) := fun a w h => by
  by_cases e : a = p
  · subst e; rw [Store.upd_same] at h; cases h; exact n
  · rw [Store.upd_ne e] at h; exact (r a w h).ext (sqT_upd hp) (L2.upd_ne e)
theorem RepS.alloc0 {p : Addr} {o : HO} (r : RepS K H S) (hp : H p = Option.none) : RepS K (L2.upd H p o) S := fun a w h => by
  have e : a ≠ p := fun z => by subst z; rw [r.none hp] at h; cases h
  exact (r a w h).ext (sqT_upd hp) (L2.upd_ne e)
theorem RepS.write {p : Addr} {o v : HO} {u : Ob} (r : RepS K H S) (hp : H p = Option.some v) (hm : Mut (Option.some v)) (n : RepO K (L2.upd H p o) p u) : RepS K (L2.upd H p o) (S.upd p u) := fun a w h => by
  by_cases e : a = p
  · subst e; rw [Store.upd_same] at h; cases h; exact n
  · rw [Store.upd_ne e] at h; exact (r a w h).ext (sqT_write hp hm) (L2.upd_ne e)
theorem Store.upd_none {a p : Addr} {u : Ob} (h : a ≠ p) (e : S a = Option.none) : S.upd p u a = Option.none := by rw [Store.upd_ne h]; exact e
end
end Fel
end

section
set_option maxHeartbeats 8000000
/-! A small language of one's own for bodies of defs, and what must hold so that it runs well (wp). -/
namespace Fel
open PySem L2

mutual
def D.decEq : (a b : D) → Decidable (a = b)
  | .non, .non => .isTrue rfl
  | .bl a, .bl b => if h : a = b then .isTrue (h ▸ rfl) else .isFalse fun z => h (D.bl.inj z)
  | .int a, .int b => if h : a = b then .isTrue (h ▸ rfl) else .isFalse fun z => h (D.int.inj z)
  | .str a, .str b => if h : a = b then .isTrue (h ▸ rfl) else .isFalse fun z => h (D.str.inj z)
  | .ref a, .ref b => if h : a = b then .isTrue (h ▸ rfl) else .isFalse fun z => h (D.ref.inj z)
  | .ty a, .ty b => if h : a = b then .isTrue (h ▸ rfl) else .isFalse fun z => h (D.ty.inj z)
  | .tup a, .tup b => match D.decEqs a b with
    | .isTrue h => .isTrue (h ▸ rfl)
    | .isFalse h => .isFalse fun z => h (D.tup.inj z)
  | .lk a, .lk b => match D.decEqs a b with
    | .isTrue h => .isTrue (h ▸ rfl)
    | .isFalse h => .isFalse fun z => h (D.lk.inj z)
  | .non, .bl _ | .non, .int _ | .non, .str _ | .non, .tup _ | .non, .ref _ | .non, .ty _ | .non, .lk _ => .isFalse fun z => nomatch z
  | .bl _, .non | .bl _, .int _ | .bl _, .str _ | .bl _, .tup _ | .bl _, .ref _ | .bl _, .ty _ | .bl _, .lk _ => .isFalse fun z => nomatch z
  | .int _, .non | .int _, .bl _ | .int _, .str _ | .int _, .tup _ | .int _, .ref _ | .int _, .ty _ | .int _, .lk _ => .isFalse fun z => nomatch z
  | .str _, .non | .str _, .bl _ | .str _, .int _ | .str _, .tup _ | .str _, .ref _ | .str _, .ty _ | .str _, .lk _ => .isFalse fun z => nomatch z
  | .tup _, .non | .tup _, .bl _ | .tup _, .int _ | .tup _, .str _ | .tup _, .ref _ | .tup _, .ty _ | .tup _, .lk _ => .isFalse fun z => nomatch z
  | .ref _, .non | .ref _, .bl _ | .ref _, .int _ | .ref _, .str _ | .ref _, .tup _ | .ref _, .ty _ | .ref _, .lk _ => .isFalse fun z => nomatch z
  | .ty _, .non | .ty _, .bl _ | .ty _, .int _ | .ty _, .str _ | .ty _, .tup _ | .ty _, .ref _ | .ty _, .lk _ => .isFalse fun z => nomatch z
  | .lk _, .non | .lk _, .bl _ | .lk _, .int _ | .lk _, .str _ | .lk _, .tup _ | .lk _, .ref _ | .lk _, .ty _ => .isFalse fun z => nomatch z
def D.decEqs : (a b : List D) → Decidable (a = b)
  | [], [] => .isTrue rfl
  | [], _ :: _ => .isFalse fun z => nomatch z
  | _ :: _, [] => .isFalse fun z => nomatch z
  | a :: x, b :: y => match D.decEq a b with
    | .isFalse h => .isFalse fun z => h (List.cons.inj z).1
    | .isTrue h => match D.decEqs x y with
      | .isTrue q => .isTrue (h ▸ q ▸ rfl)
      | .isFalse q => .isFalse fun z => q (List.cons.inj z).2
end
instance : DecidableEq D := D.decEq

mutual
/-- as data of the library -/
def D.py : D → PyData
  | .non => .none
  | .bl b => .bool b
  | .int i => .int i
  | .str x => .str x
  | .tup ds => .tuple (pys ds)
  | .ref _ => .none
  | .ty _ => .none
  | .lk _ => .none
def pys : List D → List PyData
  | [] => []
  | d :: ds => D.py d :: pys ds
end
mutual
/-- data through and through -/
def D.pure : D → Bool
  | .tup ds => pures ds
  | .ref _ => false
  | .ty _ => false
  | .lk _ => false
  | _ => true
def pures : List D → Bool
  | [] => true
  | d :: ds => D.pure d && pures ds
end

/-- what may be compared -/
def look (S : Store) (d : D) : Option PyData :=
  match d with
  | .ref a => match S a with
    | some (.lst ds) => if pures ds = true then some (.list (pys ds)) else none
    | _ => none
  | d => if d.pure = true then some d.py else none

def D.scal : D → Bool
  | .int _ => true | .str _ => true | .bl _ => true | .non => true | _ => false

abbrev K1 := D → Store → Prop
abbrev KR := Rho → Store → Prop
/-- what is wanted of an exception: its class, its field, the names' values, the store -/
abbrev XW := Addr → Option D → Rho → Store → Prop
/-- a def's promise -/
structure FSp where
  ar : Nat
  run : List D → Store → K1 → (Addr → Option D → Store → Prop) → Prop

inductive Op2 where | add | sub | mul | fdiv | mod | pow
inductive Cm where | eq | ne | lt | le | gt | ge | in_ | ni | is_ | isnt
/-- built-ins called -/
inductive Bt where | abs | int | len | list | tuple | sum | all | any | sorted | max2 | min2 | str | maxl
inductive BtL where | sum | all | any | tuple | sorted | len | max
/-- methods of built-in types -/
inductive Bm where | append | extend | pop
mutual
inductive Ex where
  | var (i : Nat) | con (d : D) | glo (x : Str)
  | op (o : Op2) (a b : Ex) | neg (a : Ex)
  | cmp (c : Cm) (a b : Ex) | chain (c d : Cm) (x y z : Ex)
  | and (a b : Ex) | or (a b : Ex) | one (a : Ex) | not (a : Ex) | ife (c a b : Ex)
  | tup (es : Exs) | lst (es : Exs) | dnew
  | idx (a b : Ex) | slc (a : Ex) (lo hi : EO) | rev (a : Ex)
  | call (f : Str) (es : Exs) | bt (b : Bt) (es : Exs)
  | bm (m : Bm) (o : Ex) (es : Exs)
  | isi (a : Ex) (T : String)
  | isx (i : Nat) (xs : List Str) | join (s : Str) (e : Ex)
  | lc (elt : Ex) (tg : Tg) (it : It') (ifs : EO) (own : List Nat)
  | btl (b : BtL) (elt : Ex) (tg : Tg) (it : It') (ifs : EO) (own : List Nat)
inductive Exs where
  | nil | cons (e : Ex) (es : Exs)
inductive EO where
  | none | some (e : Ex)
inductive Tg where
  | name (i : Nat) | tup (ts : Tgs)
inductive Tgs where
  | nil | cons (t : Tg) (ts : Tgs)
inductive It' where
  | seq (a : Ex) | rng (a : Ex) | rng2 (a b : Ex) | enm (a : Ex) | zip (a b : Ex) | rev (a : Ex) | revr (a : Ex)
end
/-- within an except suite -/
inductive Hx where
  | set (i : Nat) (e : Ex) | ex (e : Ex) | ret (e : Ex)
mutual
inductive Sx where
  | set (tg : Tg) (e : Ex) | seti (o i e : Ex) | aug (i : Nat) (o : Op2) (e : Ex)
  | ex (e : Ex) | ret (e : Ex) | retN
  | iff (c : Ex) (a b : Sxs) | whl (c : Ex) (b : Sxs) | for_ (tg : Tg) (it : It') (b : Sxs)
  | pass | dead | raise (x : Str) | tryAs (b : Sxs) (x : Str) (i : Nat) (h : List Hx)
inductive Sxs where
  | nil | cons (s : Sx) (ss : Sxs)
end

/-! ### values -/
def getV : Rho → Nat → (D → Prop) → Prop
  | some d :: _, 0, k => k d
  | none :: _, 0, _ => False
  | _ :: r, i + 1, k => getV r i k
  | [], _, _ => False
def wipeR (ρ : Rho) : List Nat → Rho
  | [] => ρ
  | v :: vs => (wipeR ρ vs).set v none

def opW (o : Op2) (x y : D) (Q : D → Prop) : Prop :=
  match o, x, y with
  | .add, .int i, .int j => Q (.int (i + j))
  | .sub, .int i, .int j => Q (.int (i - j))
  | .mul, .int i, .int j => IntMulOk i j ∧ Q (.int (i * j))
  | .fdiv, .int i, .int j => CDivW i j ∧ Q (.int (i / j))
  | .mod, .int i, .int j => 0 < j ∧ Q (.int (i % j))
  | .pow, .int i, .int j => CPow i j ∧ Q (.int (i ^ j.toNat))
  | .add, .str i, .str j => i.length + j.length ≤ sizeLine ∧ Q (.str (i ++ j))
  | _, _, _ => False
/-- an operator on what may be lists or tuples -/
def opS (o : Op2) (x y : D) (S : Store) (Q : K1) : Prop :=
  match o, x, y with
  | .add, .tup xs, .tup ys => xs.length + ys.length ≤ sizeLine ∧ Q (.tup (xs ++ ys)) S
  | .add, .ref a, .ref b => match S a, S b with
    | some (.lst xs), some (.lst ys) => xs.length + ys.length ≤ sizeLine ∧ ∀ p, S p = none → Q (.ref p) (S.upd p (.lst (xs ++ ys)))
    | _, _ => False
  | .mul, .ref a, .int k => match S a with
    | some (.lst xs) => -(2 ^ 63) ≤ k ∧ k < 2 ^ 63 ∧ xs.length * k.toNat ≤ sizeLine ∧ ∀ p, S p = none → Q (.ref p) (S.upd p (.lst (List.replicate k.toNat xs).flatten))
    | _ => False
  | o, x, y => opW o x y fun d => Q d S

def scEq (x y : D) (k : Bool → Prop) : Prop :=
  match x, y with
  | .bl _, .int _ => False
  | .int _, .bl _ => False
  | x, y => k (decide (x = y))
/-- == -/
def eqW (S : Store) (x y : D) (k : Bool → Prop) : Prop :=
  if x.scal = true ∧ y.scal = true then scEq x y k
  else match look S x, look S y with
    | some p, some q => p.canLay0 = true ∧ q.canLay0 = true ∧ p.depth ≤ 190 ∧ k (PyData.eqv p q)
    | _, _ => False
/-- < -/
def ltW (x y : D) (k : Bool → Prop) : Prop :=
  match x, y with
  | .int i, .int j => k (decide (i < j))
  | .str i, .str j => k (decide (i.cps.toList < j.cps.toList))
  | .tup xs, .tup ys => pures xs = true ∧ pures ys = true ∧ PySem.W.alikeAll (pys xs) (pys ys) = true ∧ (PyData.tuple (pys xs)).depth ≤ 190 ∧ k (PySem.W.dataLt (.tuple (pys xs)) (.tuple (pys ys)))
  | _, _ => False
/-- flat things -/
def eqF (x y : D) : Bool :=
  match x, y with
  | .bl i, .int j => (if i then 1 else 0) == j
  | .int i, .bl j => i == (if j then 1 else 0)
  | x, y => decide (x = y)
/-- in -/
def inW (S : Store) (x y : D) (k : Bool → Prop) : Prop :=
  match y with
  | .str z => match x with
    | .str c => match c.cps.toList with
      | [c] => k (decide (c ∈ z.cps.toList))
      | _ => False
    | _ => False
  | .tup ds => x.scal = true ∧ ds.all D.scal = true ∧ k (ds.any fun d => eqF d x)
  | .ref a => match S a with
    | some (.lst ds) => x.scal = true ∧ ds.all D.scal = true ∧ k (ds.any fun d => eqF d x)
    | some (.dic kvs) => match x with
      | .int _ => k (kvs.any fun p => decide (p.1 = x))
      | .str _ => k (kvs.any fun p => decide (p.1 = x))
      | _ => False
    | _ => False
  | _ => False
def cmW (c : Cm) (S : Store) (x y : D) (k : Bool → Prop) : Prop :=
  match c with
  | .eq => eqW S x y k
  | .ne => eqW S x y fun b => k (!b)
  | .lt => ltW x y k
  | .gt => match x, y with
    | .int i, .int j => k (decide (j < i))
    | _, _ => False
  | .le => match x, y with
    | .int i, .int j => k (decide (i ≤ j))
    | _, _ => False
  | .ge => match x, y with
    | .int i, .int j => k (decide (j ≤ i))
    | _, _ => False
  | .in_ => inW S x y k
  | .ni => inW S x y fun b => k (!b)
  | .is_ => y = .non ∧ k (decide (x = .non))
  | .isnt => y = .non ∧ k (!decide (x = .non))

def valD (kvs : List (D × D)) (k : D) : Option D := (kvs.find? fun kv => decide (kv.1 = k)).map (·.2)
def putD (kvs : List (D × D)) (k v : D) : List (D × D) :=
  if (kvs.any fun kv => decide (kv.1 = k)) = true then kvs.map (fun kv => if kv.1 = k then (kv.1, v) else kv) else kvs ++ [(k, v)]
def D.isKey : D → Bool
  | .int _ => true | .str _ => true | _ => false

def idxW (S : Store) (x y : D) (Q : D → Prop) : Prop :=
  match x with
  | .tup ds => match y with
    | .int i => match atI ds i with
      | some d => Q d
      | none => False
    | _ => False
  | .lk ds => match y with
    | .int i => match atI ds i with
      | some d => Q d
      | none => False
    | _ => False
  | .str z => match y with
    | .int i => z.length ≤ sizeLine ∧ match atI z.cps.toList i with
      | some c => Q (.str ⟨#[c]⟩)
      | none => False
    | _ => False
  | .ref a => match S a with
    | some (.lst ds) => match y with
      | .int i => match atI ds i with
        | some d => Q d
        | none => False
      | _ => False
    | some (.dic kvs) => y.isKey = true ∧ match valD kvs y with
      | some d => Q d
      | none => False
    | _ => False
  | _ => False
def cutD {α : Type} (xs : List α) (lo hi : Option Int) : List α := (xs.drop (HT.sIx xs.length 0 lo)).take (HT.sIx xs.length xs.length hi - HT.sIx xs.length 0 lo)
def slcW (S : Store) (x : D) (lo hi : Option Int) (Q : K1) : Prop :=
  match x with
  | .tup ds => Q (.tup (cutD ds lo hi)) S
  | .lk ds => ∀ p, S p = none → Q (.ref p) (S.upd p (.lst (cutD ds lo hi)))
  | .str z => z.length ≤ sizeLine ∧ Q (.str (cutS z lo hi)) S
  | .ref a => match S a with
    | some (.lst ds) => ∀ p, S p = none → Q (.ref p) (S.upd p (.lst (cutD ds lo hi)))
    | _ => False
  | _ => False

/-- lists of ints, of truths -/
def intsOf : List D → Option (List Int)
  | [] => some []
  | .int i :: ds => (intsOf ds).map (i :: ·)
  | _ :: _ => none
def blsOf : List D → Option (List Bool)
  | [] => some []
  | .bl i :: ds => (blsOf ds).map (i :: ·)
  | _ :: _ => none
/-- data that can be sorted; the outcome -/
def sortOk (ds : List D) : Prop := pures ds = true ∧ (∀ x ∈ pys ds, ∀ y ∈ pys ds, PySem.W.alike x y = true) ∧ PySem.W.Sortable (pys ds) ∧ ∀ x ∈ pys ds, x.depth ≤ 190
def leD (a b : D) : Bool := !PySem.W.dataLt b.py a.py
def sortD (ds : List D) : List D := ds.mergeSort leD

def btlW (b : BtL) (ds : List D) (S : Store) (Q : K1) : Prop :=
  match b with
  | .sum => match intsOf ds with
    | some ns => Q (.int ns.sum) S
    | none => False
  | .all => match blsOf ds with
    | some bs => Q (.bl (bs.all id)) S
    | none => False
  | .any => match blsOf ds with
    | some bs => Q (.bl (bs.any id)) S
    | none => False
  | .tuple => Q (.tup ds) S
  | .len => Q (.int ds.length) S
  | .max => match intsOf ds with
    | some ns => 0 < ns.length ∧ ∀ m, m ∈ ns → (∀ y, y ∈ ns → y ≤ m) → Q (.int m) S
    | none => False
  | .sorted => sortOk ds ∧ ds.length ≤ sizeLine ∧ ∀ p, S p = none → Q (.ref p) (S.upd p (.lst (sortD ds)))
def on1 (xs : List D) (k : D → Prop) : Prop :=
  match xs with
  | [d] => k d
  | _ => False
def on2 (xs : List D) (k : D → D → Prop) : Prop :=
  match xs with
  | [d, e] => k d e
  | _ => False
def onI (d : D) (k : Int → Prop) : Prop :=
  match d with
  | .int i => k i
  | _ => False
def onB (d : D) (k : Bool → Prop) : Prop :=
  match d with
  | .bl i => k i
  | _ => False
def onL (S : Store) (d : D) (k : List D → Prop) : Prop :=
  match d with
  | .ref a => match S a with
    | some (.lst ds) => k ds
    | _ => False
  | _ => False
def lenW (S : Store) (d : D) (k : Nat → Prop) : Prop :=
  match d with
  | .tup ds => k ds.length
  | .lk ds => k ds.length
  | .str z => z.length ≤ sizeLine ∧ k z.length
  | .ref a => match S a with
    | some (.lst ds) => k ds.length
    | some (.dic ds) => k ds.length
    | _ => False
  | _ => False
def listW (S : Store) (d : D) (k : List D → Prop) : Prop :=
  match d with
  | .tup ds => k ds
  | .lk ds => k ds
  | .ref a => match S a with
    | some (.lst ds) => k ds
    | some (.dic kvs) => k (kvs.map (·.1))
    | _ => False
  | _ => False
def tupW (S : Store) (d : D) (k : List D → Prop) : Prop :=
  match d with
  | .tup ds => k ds
  | .ref a => match S a with
    | some (.lst ds) => k ds
    | _ => False
  | _ => False
def intW (d : D) (k : Int → Prop) : Prop :=
  match d with
  | .int i => k i
  | .bl b => k (if b then 1 else 0)
  | _ => False
def btW (b : Bt) (xs : List D) (S : Store) (Q : K1) : Prop :=
  match b with
  | .abs => on1 xs fun d => onI d fun i => Q (.int (if i < 0 then -i else i)) S
  | .int => on1 xs fun d => intW d fun i => Q (.int i) S
  | .len => on1 xs fun d => lenW S d fun n => Q (.int n) S
  | .list => on1 xs fun d => listW S d fun ds => ∀ p, S p = none → Q (.ref p) (S.upd p (.lst ds))
  | .tuple => on1 xs fun d => tupW S d fun ds => Q (.tup ds) S
  | .sum => on1 xs fun d => onL S d fun ds => btlW .sum ds S Q
  | .all => on1 xs fun d => onL S d fun ds => btlW .all ds S Q
  | .any => on1 xs fun d => onL S d fun ds => btlW .any ds S Q
  | .sorted => on1 xs fun d => onL S d fun ds => btlW .sorted ds S Q
  | .maxl => on1 xs fun d => onL S d fun ds => btlW .max ds S Q
  | .max2 => on2 xs fun d e => onI d fun i => onI e fun j => Q (.int (if j > i then j else i)) S
  | .min2 => on2 xs fun d e => onI d fun i => onI e fun j => Q (.int (if j < i then j else i)) S
  | .str => on1 xs fun d => onI d fun i => i.natAbs.log2 < 1920 ∧ Q (.str (toString i)) S
/-- a list at an address -/
def atL (S : Store) (d : D) (k : Addr → List D → Prop) : Prop :=
  match d with
  | .ref a => match S a with
    | some (.lst ds) => k a ds
    | _ => False
  | _ => False
/-- what the method is called on, ahead of its arguments -/
def bmTy (m : Bm) (S : Store) (x : D) : Prop :=
  match m with
  | .append => onL S x fun _ => True
  | .extend => onL S x fun _ => True
  | .pop => onL S x fun _ => True
def bmW (m : Bm) (x : D) (xs : List D) (S : Store) (Q : K1) : Prop :=
  match m with
  | .append => atL S x fun a ds => on1 xs fun y => ds.length < sizeLine ∧ Q .non (S.upd a (.lst (ds ++ [y])))
  | .extend => atL S x fun a ds => on1 xs fun y => onL S y fun es => ds.length + es.length ≤ sizeLine ∧ Q .non (S.upd a (.lst (ds ++ es)))
  | .pop => atL S x fun a ds => xs = [] ∧ match ds[ds.length - 1]? with
    | some y => Q y (S.upd a (.lst ds.dropLast))
    | none => False
/-- the name of a value's built-in type -/
def tyN (S : Store) (x : D) : Option String :=
  match x with
  | .non => some "NoneType"
  | .bl _ => some "bool"
  | .int _ => some "int"
  | .str _ => some "str"
  | .tup _ => some "tuple"
  | .ref a => match S a with
    | some (.lst _) => some "list"
    | some (.dic _) => some "dict"
    | _ => none
  | .ty _ => none
  | .lk _ => some "list"
/-- isinstance with a built-in class -/
def isiW (S : Store) (x : D) (T : String) (k : Bool → Prop) : Prop :=
  match (tyN S x).bind fun t => kitB t T with
  | some b => k b
  | none => False
def setiW (S : Store) (o i v : D) (k : Store → Prop) : Prop :=
  match o with
  | .ref a => match S a with
    | some (.lst ds) => match i with
      | .int n => match ixN ds.length n with
        | some j => k (S.upd a (.lst (ds.set j v)))
        | none => False
      | _ => False
    | some (.dic kvs) => i.isKey = true ∧ kvs.length < sizeLine ∧ k (S.upd a (.dic (putD kvs i v)))
    | _ => False
  | _ => False

/-! ### what is walked -/
def chars (z : Str) : List D := z.cps.toList.map fun c => .str ⟨#[c]⟩
def seqW (S : Store) (x : D) (k : List D → (Store → Prop) → Prop) : Prop :=
  match x with
  | .tup ds => k ds fun _ => True
  | .lk ds => k ds fun _ => True
  | .ref a => match S a with
    | some (.lst ds) => k ds fun S' => S' a = some (.lst ds)
    | _ => False
  | _ => False
/-- a list only -/
def lstW (S : Store) (x : D) (k : List D → (Store → Prop) → Prop) : Prop :=
  match x with
  | .lk ds => k ds fun _ => True
  | .ref a => match S a with
    | some (.lst ds) => k ds fun S' => S' a = some (.lst ds)
    | _ => False
  | _ => False
def rngD (lo : Int) (n : Nat) : List D := (List.range n).map fun (i : Nat) => .int (lo + i)
def pairs (ds : List D) : List D := ds.zipIdx.map fun p => .tup [.int (p.2 : Nat), p.1]
def zipD (xs ys : List D) : List D := List.zipWith (fun x y => .tup [x, y]) xs ys

def zipW (S : Store) (x y : D) (k : List D → (Store → Prop) → Prop) : Prop :=
  match x with
  | .tup xs => match y with
    | .tup ys => k (zipD xs ys) fun _ => True
    | _ => False
  | .ref a => match y with
    | .ref b => match S a with
      | some (.lst xs) => match S b with
        | some (.lst ys) => k (zipD xs ys) fun S' => S' a = some (.lst xs) ∧ S' b = some (.lst ys)
        | _ => False
      | _ => False
    | _ => False
  | _ => False

mutual
def bindT : Tg → D → Rho → (Rho → Prop) → Prop
  | .name i, d, ρ, k => k (ρ.set i (some d))
  | .tup ts, d, ρ, k => match d with
    | .tup ds => bindTs ts ds ρ k
    | _ => False
def bindTs : Tgs → List D → Rho → (Rho → Prop) → Prop
  | .nil, ds, ρ, k => ds = [] ∧ k ρ
  | .cons t ts, ds, ρ, k => match ds with
    | d :: r => bindT t d ρ fun ρ' => bindTs ts r ρ' k
    | [] => False
end

def wFor (bind : D → Rho → (Rho → Prop) → Prop) (body : Rho → Store → KR → Prop) (still : Store → Prop) : List D → Rho → Store → KR → Prop
  | [], ρ, S, k => still S ∧ k ρ S
  | x :: xs, ρ, S, k => still S ∧ bind x ρ fun ρ1 => body ρ1 S fun ρ2 S2 => wFor bind body still xs ρ2 S2 k
/-- the list comprehension's turns -/
def wLc (bind : D → Rho → (Rho → Prop) → Prop) (test : Rho → Store → (Bool → Store → Prop) → Prop) (elt : Rho → Store → K1 → Prop) (still : Store → Prop) (ρ : Rho) : List D → Store → List D → (List D → Store → Prop) → Prop
  | [], S, acc, k => still S ∧ k acc S
  | x :: xs, S, acc, k => still S ∧ bind x ρ fun ρ1 => test ρ1 S fun b S1 => if b = true then elt ρ1 S1 fun y S2 => wLc bind test elt still ρ xs S2 (acc ++ [y]) k else wLc bind test elt still ρ xs S1 acc k
def wWhile (test : Rho → Store → (Bool → Store → Prop) → Prop) (body : Rho → Store → KR → Prop) : Nat → Rho → Store → KR → Prop
  | 0, _, _, _ => False
  | n + 1, ρ, S, k => test ρ S fun b S1 => if b = true then body ρ S1 fun ρ2 S2 => wWhile test body n ρ2 S2 k else k ρ S1

structure Ends' where
  nx : KR
  rt : K1

/-- what stands around: the specs of defs, the module's constants -/
structure Env' where
  fn : Str → Option FSp
  gl : Str → Option D
  /-- own errors' classes -/
  ex : Str → Option Addr := fun _ => none
  /-- is such an error one of these? -/
  sub : Addr → Str → Option Bool := fun _ _ => none
  /-- the error that the suite holds, its class -/
  err : Option (Addr × Addr) := none
def isxB (f : Str → Option Bool) : List Str → Option Bool
  | [] => some false
  | x :: r => match f x with
    | some true => some true
    | some false => isxB f r
    | none => none
/-- all are known -/
def allSub (f : Str → Option Bool) (xs : List Str) : Bool := xs.all fun x => (f x).isSome
def isxW (f : Str → Option Bool) (xs : List Str) (k : Bool → Prop) : Prop :=
  allSub f xs = true ∧ match isxB f xs with
  | some b => k b
  | none => False
def strsOf : List D → Option (List Str)
  | [] => some []
  | .str i :: ds => (strsOf ds).map (i :: ·)
  | _ :: _ => none
def joinW (S : Store) (x : D) (s : Str) (k : Str → Prop) : Prop :=
  onL S x fun ds => match strsOf ds with
  | some ys => (ys.map (·.length)).sum + ys.length * s.length ≤ 16777216 ∧ k (Txt.join s ys)
  | none => False

section
variable (C : Env')
mutual
def wpE (E : XW) : Ex → Rho → Store → K1 → Prop
  | .var i, ρ, S, Q => getV ρ i fun d => Q d S
  | .con d, _, S, Q => Q d S
  | .glo x, _, S, Q => match C.gl x with
    | some d => Q d S
    | none => False
  | .op o a b, ρ, S, Q => wpE E a ρ S fun x S1 => wpE E b ρ S1 fun y S2 => opS o x y S2 Q
  | .neg a, ρ, S, Q => wpE E a ρ S fun x S1 => onI x fun i => Q (.int (-i)) S1
  | .cmp c a b, ρ, S, Q => wpE E a ρ S fun x S1 => wpE E b ρ S1 fun y S2 => cmW c S2 x y fun r => Q (.bl r) S2
  | .chain c d x y z, ρ, S, Q => wpE E x ρ S fun x S1 => wpE E y ρ S1 fun y S2 => cmW c S2 x y fun r =>
      if r = true then wpE E z ρ S2 fun z S3 => cmW d S3 y z fun r' => Q (.bl r') S3 else Q (.bl false) S2
  | .and a b, ρ, S, Q => wpE E a ρ S fun x S1 => onB x fun c => if c = true then wpE E b ρ S1 Q else Q (.bl false) S1
  | .or a b, ρ, S, Q => wpE E a ρ S fun x S1 => onB x fun c => if c = true then Q (.bl true) S1 else wpE E b ρ S1 Q
  | .one a, ρ, S, Q => wpE E a ρ S Q
  | .not a, ρ, S, Q => wpE E a ρ S fun x S1 => onB x fun c => Q (.bl (!c)) S1
  | .ife c a b, ρ, S, Q => wpE E c ρ S fun x S1 => onB x fun c => if c = true then wpE E a ρ S1 Q else wpE E b ρ S1 Q
  | .tup es, ρ, S, Q => wpEs E es ρ S fun ds S1 => Q (.tup ds) S1
  | .lst es, ρ, S, Q => wpEs E es ρ S fun ds S1 => ∀ p, S1 p = none → Q (.ref p) (S1.upd p (.lst ds))
  | .dnew, _, S, Q => ∀ p, S p = none → Q (.ref p) (S.upd p (.dic []))
  | .idx a b, ρ, S, Q => wpE E a ρ S fun x S1 => wpE E b ρ S1 fun y S2 => idxW S2 x y fun d => Q d S2
  | .slc a lo hi, ρ, S, Q => wpE E a ρ S fun x S1 => wpO E lo ρ S1 fun l S2 => wpO E hi ρ S2 fun h S3 => slcW S3 x l h Q
  | .rev a, ρ, S, Q => wpE E a ρ S fun x S1 => onL S1 x fun ds => ∀ p, S1 p = none → Q (.ref p) (S1.upd p (.lst ds.reverse))
  | .call f es, ρ, S, Q => match C.fn f with
    | some sp => wpEs E es ρ S fun ds S1 => ds.length = sp.ar ∧ sp.run ds S1 Q fun c g S' => E c g ρ S'
    | none => False
  | .bt b es, ρ, S, Q => wpEs E es ρ S fun ds S1 => btW b ds S1 Q
  | .bm m o es, ρ, S, Q => wpE E o ρ S fun x S1 => bmTy m S1 x ∧ wpEs E es ρ S1 fun ds S2 => bmW m x ds S2 Q
  | .isi a T, ρ, S, Q => wpE E a ρ S fun x S1 => isiW S1 x T fun b => Q (.bl b) S1
  | .isx i xs, ρ, S, Q => getV ρ i fun d => match C.err with
    | some p => d = .ref p.1 ∧ isxW (C.sub p.2) xs fun b => Q (.bl b) S
    | none => False
  | .join s e, ρ, S, Q => wpE E e ρ S fun x S1 => joinW S1 x s fun z => Q (.str z) S1
  | .lc elt tg it ifs own, ρ, S, Q => wpI E it ρ S fun ds still S1 =>
      wLc (bindT tg) (fun ρ S k => wpT (fun _ _ _ _ => False) ifs ρ S k) (fun ρ S k => wpE (fun _ _ _ _ => False) elt ρ S k) still (wipeR ρ own) ds S1 [] fun acc S2 => ∀ p, S2 p = none → Q (.ref p) (S2.upd p (.lst acc))
  | .btl b elt tg it ifs own, ρ, S, Q => wpI E it ρ S fun ds still S1 =>
      wLc (bindT tg) (fun ρ S k => wpT (fun _ _ _ _ => False) ifs ρ S k) (fun ρ S k => wpE (fun _ _ _ _ => False) elt ρ S k) still (wipeR ρ own) ds S1 [] fun acc S2 => btlW b acc S2 Q
def wpEs (E : XW) : Exs → Rho → Store → (List D → Store → Prop) → Prop
  | .nil, _, S, Q => Q [] S
  | .cons e es, ρ, S, Q => wpE E e ρ S fun x S1 => wpEs E es ρ S1 fun xs S2 => Q (x :: xs) S2
/-- the part of a slice -/
def wpO (E : XW) : EO → Rho → Store → (Option Int → Store → Prop) → Prop
  | .none, _, S, Q => Q none S
  | .some e, ρ, S, Q => wpE E e ρ S fun x S1 => onI x fun i => Q (some i) S1
/-- a comprehension's condition -/
def wpT (E : XW) : EO → Rho → Store → (Bool → Store → Prop) → Prop
  | .none, _, S, Q => Q true S
  | .some e, ρ, S, Q => wpE E e ρ S fun x S1 => onB x fun b => Q b S1
def wpI (E : XW) : It' → Rho → Store → (List D → (Store → Prop) → Store → Prop) → Prop
  | .seq a, ρ, S, Q => wpE E a ρ S fun x S1 => seqW S1 x fun ds still => Q ds still S1
  | .rng a, ρ, S, Q => wpE E a ρ S fun x S1 => onI x fun i => -(2 ^ 61) ≤ i ∧ i < 2 ^ 61 ∧ i < 16777216 ∧ Q (rngD 0 i.toNat) (fun _ => True) S1
  | .rng2 a b, ρ, S, Q => wpE E a ρ S fun x S1 => wpE E b ρ S1 fun y S2 => onI x fun i => onI y fun j => -(2 ^ 61) ≤ i ∧ i < 2 ^ 61 ∧ -(2 ^ 61) ≤ j ∧ j < 2 ^ 61 ∧ j - i < 16777216 ∧ Q (rngD i (j - i).toNat) (fun _ => True) S2
  | .enm a, ρ, S, Q => wpE E a ρ S fun x S1 => lstW S1 x fun ds still => Q (pairs ds) still S1
  | .zip a b, ρ, S, Q => wpE E a ρ S fun x S1 => wpE E b ρ S1 fun y S2 => zipW S2 x y fun ds still => Q ds still S2
  | .rev a, ρ, S, Q => wpE E a ρ S fun x S1 => seqW S1 x fun ds still => Q ds.reverse still S1
  | .revr a, ρ, S, Q => wpE E a ρ S fun x S1 => onI x fun i => -(2 ^ 61) ≤ i ∧ i < 2 ^ 61 ∧ i < 16777216 ∧ Q (rngD 0 i.toNat).reverse (fun _ => True) S1
end
/-- an except suite -/
def wpHs (E : XW) : List Hx → Rho → Store → Ends' → Prop
  | [], ρ, S, D => D.nx ρ S
  | .set i e :: r, ρ, S, D => wpE C E e ρ S fun x S1 => wpHs E r (ρ.set i (some x)) S1 D
  | .ex e :: r, ρ, S, D => wpE C E e ρ S fun _ S1 => wpHs E r ρ S1 D
  | .ret e :: _, ρ, S, D => wpE C E e ρ S D.rt
/-- what a try wishes of its body's error -/
def tryW (E : XW) (x : Str) (i : Nat) (h : Env' → Rho → Store → Ends' → Prop) (D : Ends') : XW := fun c f ρ S => match C.sub c x with
  | some true => f = none ∧ ∀ a, S a = none → h { C with err := some (a, c) } (ρ.set i (some (.ref a))) S { D with nx := fun ρ1 S1 => D.nx (ρ1.set i none) S1 }
  | some false => E c f ρ S
  | none => False
/-- a test -/
def wpB (E : XW) (e : Ex) (ρ : Rho) (S : Store) (Q : Bool → Store → Prop) : Prop := wpE C E e ρ S fun x S1 => onB x fun b => Q b S1
mutual
def wpS (E : XW) : Sx → Rho → Store → Ends' → Prop
  | .set tg e, ρ, S, D => wpE C E e ρ S fun x S1 => bindT tg x ρ fun ρ1 => D.nx ρ1 S1
  | .seti o i e, ρ, S, D => wpE C E e ρ S fun v S1 => wpE C E o ρ S1 fun o S2 => wpE C E i ρ S2 fun i S3 => setiW S3 o i v fun S4 => D.nx ρ S4
  | .aug i o e, ρ, S, D => getV ρ i fun x => wpE C E e ρ S fun y S1 => opW o x y fun z => D.nx (ρ.set i (some z)) S1
  | .ex e, ρ, S, D => wpE C E e ρ S fun _ S1 => D.nx ρ S1
  | .ret e, ρ, S, D => wpE C E e ρ S D.rt
  | .retN, _, S, D => D.rt .non S
  | .iff c a b, ρ, S, D => wpB C E c ρ S fun k S1 => if k = true then wpSs E a ρ S1 D else wpSs E b ρ S1 D
  | .whl c b, ρ, S, D => ∃ n, wWhile (wpB C E c) (fun ρ S k => wpSs E b ρ S { D with nx := k }) n ρ S D.nx
  | .for_ tg it b, ρ, S, D => wpI C E it ρ S fun ds still S1 => wFor (bindT tg) (fun ρ S k => wpSs E b ρ S { D with nx := k }) still ds ρ S1 D.nx
  | .pass, ρ, S, D => D.nx ρ S
  | .dead, _, _, _ => False
  | .raise x, ρ, S, _ => match C.ex x with
    | some c => E c none ρ S
    | none => False
  | .tryAs b x i h, ρ, S, D => (C.ex x).isSome = true ∧ wpSs (tryW C E x i (fun C' => wpHs C' (fun _ _ _ _ => False) h) D) b ρ S D
def wpSs (E : XW) : Sxs → Rho → Store → Ends' → Prop
  | .nil, ρ, S, D => D.nx ρ S
  | .cons s ss, ρ, S, D => wpS E s ρ S { D with nx := fun ρ1 S1 => wpSs E ss ρ1 S1 D }
end
end
end Fel
end

section
set_option maxHeartbeats 8000000
/-! Operators and built-ins: what the small language asks is enough for the tracked heap. -/
namespace Fel
open PySem L2 PySem.Spec PyProof.Rows

def Cl (K : PySem.W.Frag) (H : Hp) (S : Store) (Q0 : K1) (Q : VK) : Prop := ∀ d S' v H', Q0 d S' → Ext K H S H' S' → RepV K H' v d → RepS K H' S' → Q v H'

section
variable {K : PySem.W.Frag} {H H1 : Hp} {S S1 : Store} {Q0 : K1} {Q : VK} {v : V} {vs : List V} {d : D} {ds : List D}
theorem RepV.intE {i : Int} (r : RepV K H v (.int i)) : v = .int i := by cases r; rfl
theorem RepV.blE {i : Bool} (r : RepV K H v (.bl i)) : v = .bl i := by cases r; rfl
theorem RepV.strE {i : Str} (r : RepV K H v (.str i)) : v = .str i := by cases r; rfl
theorem RepV.refE {i : Addr} (r : RepV K H v (.ref i)) : v = .ref i := by cases r; rfl
theorem RepV.nonE (r : RepV K H v .non) : v = .non := by cases r; rfl
theorem RepV.tupE (r : RepV K H v (.tup ds)) : ∃ a xs, v = .ref a ∧ SqT K H a xs ∧ RepVs K H xs ds := by cases r with | tup h q => exact ⟨_, _, rfl, h, q⟩
theorem RepV.lkE (r : RepV K H v (.lk ds)) : ∃ a xs, v = .ref a ∧ LkL K H a xs ∧ RepVs K H xs ds := by cases r with | lk h q => exact ⟨_, _, rfl, h, q⟩
theorem RepVs.nilE (r : RepVs K H vs []) : vs = [] := by cases r; rfl
theorem RepVs.consE (r : RepVs K H vs (d :: ds)) : ∃ v vs', vs = v :: vs' ∧ RepV K H v d ∧ RepVs K H vs' ds := by cases r with | cons h q => exact ⟨_, _, rfl, h, q⟩
theorem RepVs.one (r : RepVs K H vs [d]) : ∃ v, vs = [v] ∧ RepV K H v d := by
  obtain ⟨v, vs', rfl, h, q⟩ := r.consE; cases q; exact ⟨v, rfl, h⟩
theorem RepVs.two {e : D} (r : RepVs K H vs [d, e]) : ∃ v w, vs = [v, w] ∧ RepV K H v d ∧ RepV K H w e := by
  obtain ⟨v, vs', rfl, h, q⟩ := r.consE; obtain ⟨w, rfl, h2⟩ := q.one; exact ⟨v, w, rfl, h, h2⟩
theorem RepS.lst {a : Addr} (r : RepS K H S) (h : S a = some (.lst ds)) : ∃ xs, H a = some (.lst xs) ∧ RepVs K H xs ds := r a _ h
theorem RepS.ins {a C : Addr} {fs : List (Str × D)} (r : RepS K H S) (h : S a = some (.ins C fs)) : ∃ dx fs', H a = some (.ins C dx fs') ∧ RepF K H fs' fs := r a _ h
theorem Cl.same (cl : Cl K H S Q0 Q) (rs : RepS K H S) (q : Q0 d S) (r : RepV K H v d) : Q v H := cl d S v H q Ext.refl r rs
theorem Cl.ext (cl : Cl K H S Q0 Q) (e : Ext K H S H1 S1) : Cl K H1 S1 Q0 Q := fun d S' v H' q e' r rs => cl d S' v H' q (e.trans e') r rs
/-- a new list -/
theorem Cl.new {p : Addr} {xs : List V} (cl : Cl K H S Q0 Q) (rs : RepS K H S) (q : ∀ p, S p = none → Q0 (.ref p) (S.upd p (.lst ds))) (r : RepVs K H xs ds) (hp : H p = none) : Q (.ref p) (L2.upd H p (.lst xs)) :=
  cl _ _ _ _ (q p (rs.none hp)) (Ext.alloc hp fun a h e => Store.upd_none h e) (.ref p) (rs.alloc hp ⟨xs, L2.upd_same, r.ext (sqT_upd hp)⟩)
/-- a new tuple -/
theorem Cl.newT {p : Addr} {xs : List V} (cl : Cl K H S Q0 Q) (rs : RepS K H S) (q : Q0 (.tup ds) S) (r : RepVs K H xs ds) (hp : H p = none) : Q (.ref p) (L2.upd H p (.tup xs)) :=
  cl _ _ _ _ q (Ext.alloc hp fun a h e => e) (.tup (.inl (.inl L2.upd_same)) (r.ext (sqT_upd hp))) (rs.alloc0 hp)
/-- a list written -/
theorem Cl.put {a : Addr} {xs ys : List V} {ds es : List D} {w : V} {d : D} (cl : Cl K H S Q0 Q) (rs : RepS K H S) (hS : S a = some (.lst ds)) (ha : H a = some (.lst xs)) (q : Q0 d (S.upd a (.lst es))) (r : RepVs K H ys es) (rw : RepV K H w d) : Q w (L2.upd H a (.lst ys)) := by
  have hm : Mut (some (HO.lst xs)) := True.intro
  refine cl _ _ _ _ q (Ext.write ha hm (by rw [hS]; exact fun z => nomatch z) fun b e => ?_) (rw.ext (sqT_write ha hm)) (rs.write ha hm ⟨ys, L2.upd_same, r.ext (sqT_write ha hm)⟩)
  by_cases z : b = a
  · subst z; rw [hS] at e; cases e
  · exact Store.upd_none z e

theorem intsOf_map : ∀ {ds : List D} {ns : List Int}, intsOf ds = some ns → ds = ns.map D.int
  | [], ns, h => by simp [intsOf] at h; subst h; rfl
  | .int i :: ds, ns, h => by
    simp only [intsOf, Option.map_eq_some_iff] at h
    obtain ⟨r, h1, rfl⟩ := h
    rw [intsOf_map h1]; rfl
  | .non :: _, _, h => by simp [intsOf] at h
  | .bl _ :: _, _, h => by simp [intsOf] at h
  | .str _ :: _, _, h => by simp [intsOf] at h
  | .tup _ :: _, _, h => by simp [intsOf] at h
  | .ref _ :: _, _, h => by simp [intsOf] at h
  | .ty _ :: _, _, h => by simp [intsOf] at h
  | .lk _ :: _, _, h => by simp [intsOf] at h
theorem blsOf_map : ∀ {ds : List D} {ns : List Bool}, blsOf ds = some ns → ds = ns.map D.bl
  | [], ns, h => by simp [blsOf] at h; subst h; rfl
  | .bl i :: ds, ns, h => by
    simp only [blsOf, Option.map_eq_some_iff] at h
    obtain ⟨r, h1, rfl⟩ := h
    rw [blsOf_map h1]; rfl
  | .non :: _, _, h => by simp [blsOf] at h
  | .int _ :: _, _, h => by simp [blsOf] at h
  | .str _ :: _, _, h => by simp [blsOf] at h
  | .tup _ :: _, _, h => by simp [blsOf] at h
  | .ref _ :: _, _, h => by simp [blsOf] at h
  | .ty _ :: _, _, h => by simp [blsOf] at h
  | .lk _ :: _, _, h => by simp [blsOf] at h
@[simp] theorem intsOf_ints (ns : List Int) : intsOf (ns.map D.int) = some ns := by
  induction ns with
  | nil => rfl
  | cons n ns ih => simp [intsOf, ih]
@[simp] theorem blsOf_bls (ns : List Bool) : blsOf (ns.map D.bl) = some ns := by
  induction ns with
  | nil => rfl
  | cons n ns ih => simp [blsOf, ih]

/-! data -/
mutual
theorem RepV.dp : ∀ {v : V} {d : D}, RepV K H v d → d.pure = true → Dp K H v d.py
  | _, _, .non, _ => .non
  | _, _, .bl b, _ => .bl b
  | _, _, .int i, _ => .int i
  | _, _, .str x, _ => .str x
  | _, _, .ref a, h => by simp [D.pure] at h
  | _, _, .ty n, h => by simp [D.pure] at h
  | _, _, .lk _ _, h => by simp [D.pure] at h
  | _, _, .tup h r, p => .tup h (RepVs.dp r (by simpa [D.pure] using p))
theorem RepVs.dp : ∀ {vs : List V} {ds : List D}, RepVs K H vs ds → pures ds = true → DpAll K H vs (pys ds)
  | _, _, .nil, _ => .nil
  | _, _, .cons h r, p => by
    rw [pures, Bool.and_eq_true] at p
    exact .cons (RepV.dp h p.1) (RepVs.dp r p.2)
end
theorem look_dp {p : PyData} (rs : RepS K H S) (r : RepV K H v d) (h : look S d = some p) : Dp K H v p := by
  unfold look at h
  split at h
  · split at h
    · split at h
      · cases h
        rename_i a ds hS hp
        obtain ⟨xs, h1, h2⟩ := rs.lst hS
        rw [r.refE]
        exact .lst (SqL.of h1) (h2.dp hp)
      · cases h
    · cases h
  · split at h
    · cases h
      exact r.dp (by assumption)
    · cases h
theorem scal_rep (r : RepV K H v d) (h : d.scal = true) : flatV v = true := by
  cases r <;> first | rfl | (simp [D.scal] at h)
end

/-! ### operators -/
section
variable {X : Cx}
def rOp (K : PySem.W.Frag) (o : Op2) : R2 := fun x y H Q => ∃ d e S Q0, RepV K H x d ∧ RepV K H y e ∧ RepS K H S ∧ opS o d e S Q0 ∧ Cl K H S Q0 Q
def oper : Op2 → Operator
  | .add => .Add | .sub => .Sub | .mul => .Mult | .fdiv => .FloorDiv | .mod => .Mod | .pow => .Pow
theorem op_mulX : OpR X (binaryOp .Mult) (rI IntMulOk fun i j => .int (i * j)) := opI fun _ _ _ _ _ _ _ hc q => mul_int q hc

theorem RepVs.rep {K : PySem.W.Frag} {H : Hp} {vs : List V} {ds : List D} (ra : RepVs K H vs ds) : ∀ n : Nat, RepVs K H (List.replicate n vs).flatten (List.replicate n ds).flatten
  | 0 => .nil
  | n + 1 => by rw [List.replicate_succ, List.replicate_succ, List.flatten_cons, List.flatten_cons]; exact ra.append (RepVs.rep ra n)
theorem op_okX (o : Op2) : OpR X (binaryOp (oper o)) (rOp X.K o) := by
  intro pins s σ H x y v u Q I rx ry h
  obtain ⟨d, e, S, Q0, r1, r2, rs, hw, cl⟩ := h
  unfold opS at hw
  split at hw
  · -- tuples
    obtain ⟨hl, q⟩ := hw
    obtain ⟨a, xs, rfl, ha, ra⟩ := r1.tupE
    obtain ⟨b, ys, rfl, hb, rb⟩ := r2.tupE
    refine op_catA pins s σ H _ _ v u Q I rx ry ⟨a, b, xs, ys, rfl, rfl, ha, hb, by rw [ra.length, rb.length]; exact hl, fun z => ?_, fun _ z => ?_, fun _ _ p hp => ?_⟩
    · subst z; cases ra; exact cl.same rs q (.tup hb rb)
    · subst z; cases rb; rw [List.append_nil] at q; exact cl.same rs q (.tup ha ra)
    · exact cl.newT rs q (ra.append rb) hp
  · split at hw
    · rename_i a b xs ys ha hb
      obtain ⟨hl, q⟩ := hw
      obtain ⟨xs', h1, ra⟩ := rs.lst ha
      obtain ⟨ys', h2, rb⟩ := rs.lst hb
      rw [r1.refE] at rx; rw [r2.refE] at ry
      refine op_cat pins s σ H _ _ v u Q I rx ry ⟨_, _, xs', ys', rfl, rfl, h1, h2, by rw [ra.length, rb.length]; exact hl, fun p hp => cl.new rs q (ra.append rb) hp⟩
    · exact hw.elim
  · split at hw
    · rename_i a k xs ha
      obtain ⟨h0, h1, hl, q⟩ := hw
      obtain ⟨xs', h1', ra⟩ := rs.lst ha
      rw [r1.refE] at rx; rw [r2.intE] at ry
      refine op_rep pins s σ H _ _ v u Q I rx ry ⟨_, _, xs', rfl, rfl, h1', h0, h1, by rw [ra.length]; exact hl, fun p hp => cl.new rs q ?_ hp⟩
      exact RepVs.rep ra _
    · exact hw.elim
  · unfold opW at hw
    split at hw
    · rw [r1.intE] at rx; rw [r2.intE] at ry
      exact op_add pins s σ H _ _ v u Q I rx ry ⟨_, _, rfl, rfl, cl.same rs hw (.int _)⟩
    · rw [r1.intE] at rx; rw [r2.intE] at ry
      exact op_sub pins s σ H _ _ v u Q I rx ry ⟨_, _, rfl, rfl, cl.same rs hw (.int _)⟩
    · rw [r1.intE] at rx; rw [r2.intE] at ry
      exact op_mulX pins s σ H _ _ v u Q I rx ry ⟨_, _, rfl, rfl, hw.1, cl.same rs hw.2 (.int _)⟩
    · rw [r1.intE] at rx; rw [r2.intE] at ry
      exact op_fdivW pins s σ H _ _ v u Q I rx ry ⟨_, _, rfl, rfl, hw.1, cl.same rs hw.2 (.int _)⟩
    · rw [r1.intE] at rx; rw [r2.intE] at ry
      exact op_mod pins s σ H _ _ v u Q I rx ry ⟨_, _, rfl, rfl, hw.1, cl.same rs hw.2 (.int _)⟩
    · rw [r1.intE] at rx; rw [r2.intE] at ry
      exact op_pow pins s σ H _ _ v u Q I rx ry ⟨_, _, rfl, rfl, hw.1, cl.same rs hw.2 (.int _)⟩
    · rw [r1.strE] at rx; rw [r2.strE] at ry
      exact op_add_str pins s σ H _ _ v u Q I rx ry ⟨_, _, rfl, rfl, hw.1, cl.same rs hw.2 (.str _)⟩
    · exact hw.elim
/-- name op= e on numbers and texts -/
def ipX (K : PySem.W.Frag) (o : Op2) : TIp := fun x y H Q => ∃ d e S, RepV K H x d ∧ RepV K H y e ∧ RepS K H S ∧ opW o d e fun z => ∀ v, RepV K H v z → Q v H
theorem ip_okX (o : Op2) (ho : match o with | .add | .sub | .mul => True | _ => False) : PIp X (oper o) (ipX X.K o) := by
  intro pins s σ H x y v u Q I rx ry h
  obtain ⟨d, e, S, r1, r2, rs, hw⟩ := h
  unfold opW at hw
  split at hw
  · rw [r1.intE] at rx; rw [r2.intE] at ry
    exact iop_add pins s σ H _ _ v u Q I rx ry ⟨_, _, rfl, rfl, hw _ (.int _)⟩
  · rw [r1.intE] at rx; rw [r2.intE] at ry
    exact iop_sub pins s σ H _ _ v u Q I rx ry ⟨_, _, rfl, rfl, hw _ (.int _)⟩
  · rw [r1.intE] at rx; rw [r2.intE] at ry
    exact (opI fun _ _ _ _ _ _ _ hc q => imul_int q hc : OpR X (inplaceOp .Mult) (rI IntMulOk fun i j => .int (i * j))) pins s σ H _ _ v u Q I rx ry ⟨_, _, rfl, rfl, hw.1, hw.2 _ (.int _)⟩
  · exact ho.elim
  · exact ho.elim
  · exact ho.elim
  · rw [r1.strE] at rx; rw [r2.strE] at ry
    exact iop_add_str pins s σ H _ _ v u Q I rx ry ⟨_, _, rfl, rfl, hw.1, hw.2 _ (.str _)⟩
  · exact hw.elim

/-! comparisons -/
def cmOp : Cm → CmpOp
  | .eq => .Eq | .ne => .NotEq | .lt => .Lt | .le => .LtE | .gt => .Gt | .ge => .GtE | .in_ => .In | .ni => .NotIn | .is_ => .Is | .isnt => .IsNot
def rCm (K : PySem.W.Frag) (c : Cm) : R2 := fun x y H Q => ∃ d e S, ∃ k : Bool → Prop, RepV K H x d ∧ RepV K H y e ∧ RepS K H S ∧ cmW c S d e k ∧ ∀ b, k b → Q (.bl b) H

theorem scal_v {K : PySem.W.Frag} {H : Hp} {x y : V} {d e : D} (r1 : RepV K H x d) (r2 : RepV K H y e) (h1 : d.scal = true) (h2 : e.scal = true) (k : Bool → Prop) (hk : scEq d e k) : L2.scal x y = true ∧ k (decide (x = y)) := by
  cases r1 <;> cases r2 <;> first
    | (simp [D.scal] at h1; done)
    | (simp [D.scal] at h2; done)
    | exact hk.elim
    | (refine ⟨rfl, ?_⟩; simpa [scEq] using hk)
theorem eq_okX (hu : X.A.units + 190 < cLine) (neg : Bool) : OpR X (compareOp (if neg then .NotEq else .Eq)) (fun x y H Q => ∃ d e S, ∃ k : Bool → Prop, RepV X.K H x d ∧ RepV X.K H y e ∧ RepS X.K H S ∧ eqW S d e k ∧ ∀ b, k b → Q (.bl (if neg then !b else b)) H) := by
  intro pins s σ H x y v u Q I rx ry h
  obtain ⟨d, e, S, k, r1, r2, rs, hw, hk⟩ := h
  unfold eqW at hw
  split at hw
  · rename_i hs
    obtain ⟨h1, h2⟩ := scal_v r1 r2 hs.1 hs.2 k hw
    cases neg with
    | false => exact op_eq pins s σ H _ _ v u Q I rx ry ⟨h1, hk _ h2⟩
    | true => exact op_ne pins s σ H _ _ v u Q I rx ry ⟨h1, hk _ h2⟩
  · split at hw
    · rename_i p p' hp hq
      obtain ⟨c1, c2, hd, q⟩ := hw
      obtain ⟨as, e1⟩ := Dp.reads I p x v (look_dp rs r1 hp) rx
      obtain ⟨bs, e2⟩ := Dp.reads I _ y u (look_dp rs r2 hq) ry
      have hr : X.A.units + min p.depth p'.depth < cLine := Nat.lt_of_le_of_lt (Nat.add_le_add_left (Nat.le_trans (Nat.min_le_left _ _) hd) _) hu
      cases neg with
      | false => exact SeqAt.compareEq_reads e1 e2 c1 c2 hr ⟨.bl _, H, I, rfl, hk _ q⟩
      | true => exact SeqAt.compareNe_reads e1 e2 c1 c2 hr ⟨.bl _, H, I, rfl, hk _ q⟩
    · exact hw.elim
theorem lt_okX (hu : X.A.units + 190 < cLine) : OpR X (compareOp .Lt) (fun x y H Q => ∃ d e S, ∃ k : Bool → Prop, RepV X.K H x d ∧ RepV X.K H y e ∧ RepS X.K H S ∧ ltW d e k ∧ ∀ b, k b → Q (.bl b) H) := by
  intro pins s σ H x y v u Q I rx ry h
  obtain ⟨d, e, S, k, r1, r2, rs, hw, hk⟩ := h
  unfold ltW at hw
  split at hw
  · rw [r1.intE] at rx; rw [r2.intE] at ry
    exact op_lt pins s σ H _ _ v u Q I rx ry ⟨_, _, rfl, rfl, hk _ hw⟩
  · rw [r1.strE] at rx; rw [r2.strE] at ry
    exact op_lt_str pins s σ H _ _ v u Q I rx ry ⟨_, _, rfl, rfl, hk _ hw⟩
  · rename_i xs ys
    obtain ⟨p1, p2, al, hd, q⟩ := hw
    have d1 : Dp X.K H x (.tuple (pys xs)) := r1.dp (by simpa [D.pure] using p1)
    have d2 : Dp X.K H y (.tuple (pys ys)) := r2.dp (by simpa [D.pure] using p2)
    obtain ⟨as, e1⟩ := Dp.reads I _ x v d1 rx
    obtain ⟨bs, e2⟩ := Dp.reads I _ y u d2 ry
    have hr : X.A.units + min (PyData.tuple (pys xs)).depth (PyData.tuple (pys ys)).depth < cLine := Nat.lt_of_le_of_lt (Nat.add_le_add_left (Nat.le_trans (Nat.min_le_left _ _) hd) _) hu
    exact PySem.W.rcLt_alike _ _ X.A s v u as bs e1 e2 (by rw [PySem.W.alike]; exact al) (fun z => nomatch z) hr X.prog X.w X.xe _ ⟨.bl _, H, I, rfl, hk _ q⟩
  · exact hw.elim

theorem eqV_rep {K : PySem.W.Frag} {H : Hp} {x y : V} {d e : D} (r1 : RepV K H x d) (r2 : RepV K H y e) (h1 : d.scal = true) (h2 : e.scal = true) : eqV x y = eqF d e := by
  cases r1 <;> cases r2 <;> first
    | (simp [D.scal] at h1; done)
    | (simp [D.scal] at h2; done)
    | rfl
    | (simp [eqV, eqF, Bool.beq_eq_decide_eq]; done)
    | (simp [eqV, eqF]; rw [Bool.eq_iff_iff]; simp; done)
theorem inV_rep {K : PySem.W.Frag} {H : Hp} {x : V} {d : D} (r : RepV K H x d) (h : d.scal = true) : ∀ {vs : List V} {ds : List D}, RepVs K H vs ds → ds.all D.scal = true → vs.all flatV = true ∧ inV x vs = ds.any fun e => eqF e d
  | _, _, .nil, _ => ⟨rfl, rfl⟩
  | _, _, .cons q t, a => by
    rw [List.all_cons, Bool.and_eq_true] at a
    obtain ⟨h1, h2⟩ := inV_rep r h t a.2
    refine ⟨by rw [List.all_cons, h1, scal_rep q a.1]; rfl, ?_⟩
    unfold inV at h2 ⊢
    rw [List.any_cons, List.any_cons, h2, eqV_rep q r a.1 h]

theorem keyOf {K : PySem.W.Frag} {H : Hp} {y : V} {e : D} (r : RepV K H y e) (h : e.isKey = true) : ∃ k : Key, y = kV k ∧ e = kD k := by
  cases r <;> first
    | (simp [D.isKey] at h; done)
    | exact ⟨.inl _, rfl, rfl⟩
    | exact ⟨.inr _, rfl, rfl⟩
theorem kD_inj {k j : Key} : kD k = kD j ↔ k = j := by
  cases k <;> cases j <;> simp [kD]
theorem any_key (k : Key) : ∀ {kvs : List (Key × V)} {kds : List (Key × D)} {K : PySem.W.Frag} {H : Hp}, RepF K H kvs kds → ((kds.map fun p => (kD p.1, p.2)).any fun p => decide (p.1 = kD k)) = (valV kvs k).isSome
  | _, _, _, _, .nil => rfl
  | _, _, _, _, .cons (k := j) h t => by
    rw [List.map_cons, List.any_cons, any_key k t, ← valV_any, ← valV_any, List.any_cons]
    congr 1
    simp [kD_inj]
theorem val_key (k : Key) : ∀ {kvs : List (Key × V)} {kds : List (Key × D)} {K : PySem.W.Frag} {H : Hp} {d : D}, RepF K H kvs kds → valD (kds.map fun p => (kD p.1, p.2)) (kD k) = some d → ∃ v, valV kvs k = some v ∧ RepV K H v d
  | _, _, _, _, _, .nil, h => by simp [valD] at h
  | _, _, _, _, _, .cons (k := j) (v := v) (d := d') q t, h => by
    by_cases e : j = k
    · subst e
      simp [valD] at h
      subst h
      exact ⟨_, valV_pos rfl, q⟩
    · rw [valV_neg (p := (j, v)) e]
      refine val_key k t ?_
      have e' : ¬ kD j = kD k := fun z => e (kD_inj.mp z)
      simpa [valD, e'] using h
theorem put_key {K : PySem.W.Frag} {H : Hp} (k : Key) {v : V} {d : D} (r : RepV K H v d) : ∀ {kvs : List (Key × V)} {kds : List (Key × D)}, RepF K H kvs kds →
    ∃ kds', RepF K H (putK kvs k v) kds' ∧ putD (kds.map fun p => (kD p.1, p.2)) (kD k) d = kds'.map fun p => (kD p.1, p.2) := by
  have rep : ∀ {kvs : List (Key × V)} {kds : List (Key × D)}, RepF K H kvs kds → ∃ kds', RepF K H (kvs.map fun kv => if kv.1 = k then (kv.1, v) else kv) kds' ∧ ((kds.map fun p => (kD p.1, p.2)).map fun kv => if kv.1 = kD k then (kv.1, d) else kv) = kds'.map fun p => (kD p.1, p.2) := by
    intro kvs kds h
    induction h with
    | nil => exact ⟨[], .nil, rfl⟩
    | @cons j w e r q h t ih =>
      obtain ⟨kds', h1, h2⟩ := ih
      by_cases z : j = k
      · refine ⟨(j, d) :: kds', by rw [List.map_cons, if_pos z]; exact .cons (by assumption) h1, ?_⟩
        rw [List.map_cons, List.map_cons, h2, if_pos (show kD j = kD k from kD_inj.mpr z)]; rfl
      · refine ⟨(j, e) :: kds', by rw [List.map_cons, if_neg z]; exact .cons h h1, ?_⟩
        rw [List.map_cons, List.map_cons, h2, if_neg (show ¬ kD j = kD k from fun y => z (kD_inj.mp y))]; rfl
  have app : ∀ {kvs : List (Key × V)} {kds : List (Key × D)}, RepF K H kvs kds → RepF K H (kvs ++ [(k, v)]) (kds ++ [(k, d)]) := by
    intro kvs kds h
    induction h with
    | nil => exact .cons r .nil
    | cons h t ih => exact .cons h ih
  intro kvs kds h
  unfold putK putD
  rw [any_key k h, valV_any]
  split
  · exact rep h
  · exact ⟨_, app h, by simp⟩
theorem RepF.length {κ : Type} {K : PySem.W.Frag} {H : Hp} {xs : List (κ × V)} {ys : List (κ × D)} (r : RepF K H xs ys) : xs.length = ys.length := by
  induction r with
  | nil => rfl
  | cons _ _ ih => simp [ih]

theorem in_okX (hu : X.A.units + 190 < cLine) (neg : Bool) : OpR X (compareOp (if neg then .NotIn else .In)) (fun x y H Q => ∃ d e S, ∃ k : Bool → Prop, RepV X.K H x d ∧ RepV X.K H y e ∧ RepS X.K H S ∧ inW S d e k ∧ ∀ b, k b → Q (.bl (if neg then !b else b)) H) := by
  intro pins s σ H x y v u Q I rx ry h
  obtain ⟨d, e, S, k, r1, r2, rs, hw, hk⟩ := h
  have hu1 : X.A.units + 1 < cLine := by omega
  have seq : ∀ {p : Addr} {xs : List V} {ds : List D}, y = .ref p → (SqL X.K H p xs ∨ SqT X.K H p xs) → RepVs X.K H xs ds → (d.scal = true ∧ ds.all D.scal = true ∧ k (ds.any fun e => eqF e d)) → wpAny (model X.prog X.w) X.A (compareOp (if neg then .NotIn else .In) v u) (EP X pins σ Q) X.xe s := by
    intro p xs ds ey hs rr hw
    obtain ⟨h1, h2, q⟩ := hw
    obtain ⟨h3, h4⟩ := inV_rep r1 h1 rr h2
    cases neg with
    | false => exact op_in_seq pins s σ H _ _ v u Q I rx ry ⟨p, xs, ey, hs, scal_rep r1 h1, h3, by rw [h4]; exact hk _ q⟩
    | true => exact op_notIn_seq pins s σ H _ _ v u Q I rx ry ⟨p, xs, ey, hs, scal_rep r1 h1, h3, by rw [h4]; exact hk _ q⟩
  unfold inW at hw
  split at hw
  · split at hw
    · rename_i z d c
      split at hw
      · rename_i c0 hc
        rw [r1.strE] at rx; rw [r2.strE] at ry
        have ec : c = (⟨#[c0]⟩ : Str) := by
          cases c with
          | mk a => simp only at hc; congr 1; rw [← Array.toArray_toList (xs := a), hc]
        cases neg with
        | false => exact op_in_sign pins s σ H _ _ v u Q I rx ry ⟨c0, z, by rw [ec], rfl, hk _ hw⟩
        | true => exact op_notIn_sign pins s σ H _ _ v u Q I rx ry ⟨c0, z, by rw [ec], rfl, hk _ hw⟩
      · exact hw.elim
    · exact hw.elim
  · obtain ⟨a, xs, ey, h1, h2⟩ := r2.tupE
    exact seq ey (.inr h1) h2 hw
  · rename_i a
    split at hw
    · rename_i ds hS
      obtain ⟨xs, h1, h2⟩ := rs.lst hS
      exact seq r2.refE (.inl (SqL.of h1)) h2 hw
    · rename_i kvs hS
      obtain ⟨kvs', kds, h1, h2, h3⟩ := rs a _ hS
      have fin : d.isKey = true → k (kvs.any fun p => decide (p.1 = d)) → wpAny (model X.prog X.w) X.A (compareOp (if neg then .NotIn else .In) v u) (EP X pins σ Q) X.xe s := by
        intro hd hw
        obtain ⟨k', e1, e2⟩ := keyOf r1 hd
        rw [h3, e2, any_key k' h2] at hw
        rw [r2.refE] at ry
        cases ry
        subst e1
        cases neg with
        | false => exact d_in hu1 I (DGet.k h1) rx fun s' I' => ⟨.bl _, H, I', rfl, hk _ hw⟩
        | true => exact d_notIn hu1 I (DGet.k h1) rx fun s' I' => ⟨.bl _, H, I', rfl, hk _ hw⟩
      split at hw
      · exact fin rfl hw
      · exact fin rfl hw
      · exact hw.elim
    · exact hw.elim
  · exact hw.elim

theorem cm_okX (hu : X.A.units + 190 < cLine) (c : Cm) : OpR X (compareOp (cmOp c)) (rCm X.K c) := by
  intro pins s σ H x y v u Q I rx ry h
  obtain ⟨d, e, S, k, r1, r2, rs, hw, hk⟩ := h
  cases c with
  | eq => exact eq_okX hu false pins s σ H x y v u Q I rx ry ⟨d, e, S, k, r1, r2, rs, hw, hk⟩
  | ne => exact eq_okX hu true pins s σ H x y v u Q I rx ry ⟨d, e, S, fun b => k (!b), r1, r2, rs, hw, fun b h => hk _ h⟩
  | lt => exact lt_okX hu pins s σ H x y v u Q I rx ry ⟨d, e, S, k, r1, r2, rs, hw, hk⟩
  | in_ => exact in_okX hu false pins s σ H x y v u Q I rx ry ⟨d, e, S, k, r1, r2, rs, hw, hk⟩
  | ni => exact in_okX hu true pins s σ H x y v u Q I rx ry ⟨d, e, S, fun b => k (!b), r1, r2, rs, hw, fun b h => hk _ h⟩
  | le =>
    simp only [cmW] at hw
    split at hw
    · rw [r1.intE] at rx; rw [r2.intE] at ry
      exact op_le pins s σ H _ _ v u Q I rx ry ⟨_, _, rfl, rfl, hk _ hw⟩
    · exact hw.elim
  | gt =>
    simp only [cmW] at hw
    split at hw
    · rw [r1.intE] at rx; rw [r2.intE] at ry
      exact op_gt pins s σ H _ _ v u Q I rx ry ⟨_, _, rfl, rfl, hk _ hw⟩
    · exact hw.elim
  | ge =>
    simp only [cmW] at hw
    split at hw
    · rw [r1.intE] at rx; rw [r2.intE] at ry
      exact op_ge pins s σ H _ _ v u Q I rx ry ⟨_, _, rfl, rfl, hk _ hw⟩
    · exact hw.elim
  | is_ =>
    obtain ⟨rfl, q⟩ := hw
    refine op_isN pins s σ H _ _ v u Q I rx ry ⟨r2.nonE, hk _ ?_⟩
    have : decide (x = V.non) = decide (d = D.non) := by cases r1 <;> simp
    rw [this]; exact q
  | isnt =>
    obtain ⟨rfl, q⟩ := hw
    refine op_notN pins s σ H _ _ v u Q I rx ry ⟨r2.nonE, hk _ ?_⟩
    have : decide (x = V.non) = decide (d = D.non) := by cases r1 <;> simp
    rw [this]; exact q

/-! ### built-ins -/
theorem RepVs.each {K : PySem.W.Frag} {H : Hp} {s : Shared} {σ : L2.St} {pins : List (Addr × Obj)} (I : Inv X pins σ H s) : ∀ {vs : List V} {us : List Value} {ds : List D}, RepVs X.K H vs ds → Vals vs us → pures ds = true →
    PySem.W.EachIs (fun u d => ∃ x, RelV x u ∧ RepV X.K H x d) us ds ∧ PySem.W.EachIs (fun u (d : D) => ∃ as, Reads s.heap u d.py as) us ds
  | _, _, _, .nil, .nil, _ => ⟨.nil, .nil⟩
  | _, _, _, .cons h t, .cons r q, p => by
    rw [pures, Bool.and_eq_true] at p
    obtain ⟨h1, h2⟩ := RepVs.each (K := K) I t q p.2
    exact ⟨.cons ⟨_, r, h⟩ h1, .cons (Dp.reads I _ _ _ (h.dp p.1) r) h2⟩
theorem each_vals {K : PySem.W.Frag} {H : Hp} : ∀ {us : List Value} {ds : List D}, PySem.W.EachIs (fun u d => ∃ x, RelV x u ∧ RepV K H x d) us ds → ∃ vs, Vals vs us ∧ RepVs K H vs ds
  | _, _, .nil => ⟨[], .nil, .nil⟩
  | _, _, .cons ⟨x, r, h⟩ t => by
    obtain ⟨vs, h1, h2⟩ := each_vals t
    exact ⟨x :: vs, .cons r h1, .cons h h2⟩
theorem pys_map : ∀ ds : List D, pys ds = ds.map D.py
  | [] => rfl
  | d :: ds => by rw [pys, List.map_cons, pys_map ds]
theorem dataLe_D : PySem.W.dataLe false D.py = leD := rfl

/-- sorted(xs), data -/
theorem cr_sortedD (hu : X.A.units + 195 < cLine) : CallR X (.builtin "sorted") (fun vs H Q => ∃ (a : Addr) (xs : List V) (ds : List D), vs = [.ref a] ∧ SqL X.K H a xs ∧ RepVs X.K H xs ds ∧ sortOk ds ∧ ds.length ≤ sizeLine ∧
    ∀ p ys, H p = none → RepVs X.K H ys (sortD ds) → Q (.ref p) (L2.upd H p (.lst ys))) := by
  intro pins s σ H vs us Q I r h
  obtain ⟨a, xs, ds, rfl, hs, rr, ⟨p1, p2, p3, p4⟩, hl, q⟩ := h
  obtain ⟨its, rv, hl', hz⟩ := I.list hs
  rw [Vals.ref1 r]
  obtain ⟨e1, e2⟩ := RepVs.each (K := X.K) I rr rv p1
  rw [pys_map] at p2 p3 p4
  refine PySem.W.sorted_data hl'.isList e1 e2 (fun x hx y hy => p2 x hx y hy) p3 hl (fun d hd => ?_) fun out h1 h2 => ?_
  · have := p4 _ (List.mem_map.mpr ⟨d, hd, rfl⟩); omega
  · rw [dataLe_D] at h2
    obtain ⟨ys, k1, k2⟩ := each_vals h2
    obtain ⟨ep, he'⟩ := PyProof.Rows.sortedAll_at s.heap its out.toArray
    have hlen : ys.length ≤ sizeLine := by rw [k2.length, List.length_mergeSort]; exact hl
    exact ⟨.ref _, L2.upd H (s.heap.objs.size + 1) (.lst ys), I.laid (t' := s.toks) (fun _ _ => PyProof.Rows.sortedAll_old) (Nat.le_succ _) ⟨hlen, out, ep, k1, he'⟩, rfl, q _ _ (I.hok.fresh (Nat.le_succ _)) k2⟩

/-- a built-in on a list that stands at a -/
def rBtL (K : PySem.W.Frag) (b : BtL) : List V → Hp → VK → Prop := fun vs H Q => ∃ a xs ds S Q0, vs = [.ref a] ∧ H a = some (.lst xs) ∧ RepVs K H xs ds ∧ RepS K H S ∧ btlW b ds S Q0 ∧ Cl K H S Q0 Q
def btlV : BtL → Value
  | .sum => .builtin "sum" | .all => .builtin "all" | .any => .builtin "any" | .tuple => .type "tuple" | .sorted => .builtin "sorted" | .len => .builtin "len" | .max => .builtin "max"
def rBt (K : PySem.W.Frag) (b : Bt) : List V → Hp → VK → Prop := fun vs H Q => ∃ ds S Q0, RepVs K H vs ds ∧ RepS K H S ∧ btW b ds S Q0 ∧ Cl K H S Q0 Q
def btV : Bt → Value
  | .abs => .builtin "abs" | .int => .type "int" | .len => .builtin "len" | .list => .type "list" | .tuple => .type "tuple" | .sum => .builtin "sum" | .all => .builtin "all" | .any => .builtin "any"
  | .sorted => .builtin "sorted" | .max2 => .builtin "max" | .min2 => .builtin "min" | .str => .type "str" | .maxl => .builtin "max"
theorem maxOf : ∀ ns : List Int, 0 < ns.length → ∃ m, m ∈ ns ∧ ∀ y, y ∈ ns → y ≤ m
  | [n], _ => ⟨n, by simp, fun y h => by simp at h; omega⟩
  | n :: m :: ns, _ => by
    obtain ⟨k, h1, h2⟩ := maxOf (m :: ns) (by simp)
    by_cases h : n ≤ k
    · exact ⟨k, List.mem_cons_of_mem _ h1, fun y hy => by
        rcases List.mem_cons.mp hy with rfl | hy
        · exact h
        · exact h2 y hy⟩
    · exact ⟨n, List.mem_cons_self, fun y hy => by
        rcases List.mem_cons.mp hy with rfl | hy
        · exact Int.le_refl _
        · have := h2 y hy; omega⟩
theorem btl_ok (hc : X.calm = true) (hu : X.A.units + 195 < cLine) (b : BtL) : CallR X (btlV b) (rBtL X.K b) := by
  intro pins s σ H vs us Q I r h
  obtain ⟨a, xs, ds, S, Q0, rfl, ha, rr, rs, hw, cl⟩ := h
  cases b with
  | sum =>
    simp only [btlW] at hw
    split at hw
    · rename_i ns hn
      have e := intsOf_map hn
      subst e
      exact cr_sum hc pins s σ H _ us Q I r ⟨a, ns, rfl, by rw [← rr.int]; exact SqL.of ha, cl.same rs hw (.int _)⟩
    · exact hw.elim
  | all =>
    simp only [btlW] at hw
    split at hw
    · rename_i ns hn
      have e := blsOf_map hn
      subst e
      exact cr_all hc pins s σ H _ us Q I r ⟨a, ns, rfl, by rw [← rr.bl]; exact SqL.of ha, cl.same rs hw (.bl _)⟩
    · exact hw.elim
  | any =>
    simp only [btlW] at hw
    split at hw
    · rename_i ns hn
      have e := blsOf_map hn
      subst e
      exact cr_any hc pins s σ H _ us Q I r ⟨a, ns, rfl, by rw [← rr.bl]; exact SqL.of ha, cl.same rs hw (.bl _)⟩
    · exact hw.elim
  | tuple => exact call_tuple_of pins s σ H _ us Q I r ⟨a, xs, rfl, .inl ⟨SqL.of ha, fun p hp => cl.newT rs hw rr hp⟩⟩
  | len => exact call_len pins s σ H _ us Q I r ⟨_, _, rfl, .inl ⟨xs, SqL.of ha, rfl⟩, by rw [rr.length]; exact cl.same rs hw (.int _)⟩
  | max =>
    simp only [btlW] at hw
    split at hw
    · rename_i ns hn
      have e := intsOf_map hn
      subst e
      exact cr_max hc pins s σ H _ us Q I r ⟨a, ns, rfl, by rw [← rr.int]; exact SqL.of ha, hw.1, fun m h1 h2 => cl.same rs (hw.2 m h1 h2) (.int _)⟩
    · exact hw.elim
  | sorted =>
    obtain ⟨h1, h2, q⟩ := hw
    exact cr_sortedD hu pins s σ H _ us Q I r ⟨a, xs, ds, rfl, SqL.of ha, rr, h1, h2, fun p ys hp k => cl.new rs q k hp⟩
theorem len_dK {a : Addr} {kvs : List (Key × V)} {pins : List (Addr × Obj)} {s : Shared} {σ : L2.St} {H : Hp} {Q : VK} (I : Inv X pins σ H s) (h : H a = some (.dK kvs)) (q : Q (.int kvs.length) H) : wpAny (model X.prog X.w) X.A (call (.builtin "len") [.ref a]) (EP X pins σ Q) X.xe s :=
  d_len I (.inl h) fun t s' I' => ⟨.int _, H, I', ⟨_, rfl⟩, q⟩
theorem on1E {xs : List D} {k : D → Prop} (h : on1 xs k) : ∃ d, xs = [d] ∧ k d := by
  unfold on1 at h; split at h
  · exact ⟨_, rfl, h⟩
  · exact h.elim
theorem on2E {xs : List D} {k : D → D → Prop} (h : on2 xs k) : ∃ d e, xs = [d, e] ∧ k d e := by
  unfold on2 at h; split at h
  · exact ⟨_, _, rfl, h⟩
  · exact h.elim
theorem onIE {d : D} {k : Int → Prop} (h : onI d k) : ∃ i, d = .int i ∧ k i := by
  cases d <;> first | exact h.elim | exact ⟨_, rfl, h⟩
theorem onBE {d : D} {k : Bool → Prop} (h : onB d k) : ∃ i, d = .bl i ∧ k i := by
  cases d <;> first | exact h.elim | exact ⟨_, rfl, h⟩
theorem onLE {S : Store} {d : D} {k : List D → Prop} (h : onL S d k) : ∃ a ds, d = .ref a ∧ S a = some (.lst ds) ∧ k ds := by
  cases d with
  | ref a =>
    simp only [onL] at h; split at h
    · exact ⟨_, _, rfl, by assumption, h⟩
    · exact h.elim
  | _ => exact h.elim
theorem atLE {S : Store} {d : D} {k : Addr → List D → Prop} (h : atL S d k) : ∃ a ds, d = .ref a ∧ S a = some (.lst ds) ∧ k a ds := by
  cases d with
  | ref a =>
    simp only [atL] at h; split at h
    · exact ⟨_, _, rfl, by assumption, h⟩
    · exact h.elim
  | _ => exact h.elim
theorem bt_ok (hc : X.calm = true) (hu : X.A.units + 195 < cLine) (b : Bt) : CallR X (btV b) (rBt X.K b) := by
  intro pins s σ H vs us Q I r h
  obtain ⟨ds, S, Q0, rr, rs, hw, cl⟩ := h
  have lst : ∀ c : BtL, btlV c = btV b → (on1 ds fun d => onL S d fun ds => btlW c ds S Q0) → wpAny (model X.prog X.w) X.A (call (btV b) us) (EP X pins σ Q) X.xe s := by
    intro c e hw
    obtain ⟨d, rfl, hw⟩ := on1E hw
    obtain ⟨a, ds, rfl, hS, hw⟩ := onLE hw
    obtain ⟨v, rfl, rv⟩ := rr.one
    cases rv
    obtain ⟨xs, h1, h2⟩ := rs.lst hS
    rw [← e]
    exact btl_ok hc hu c pins s σ H _ us Q I r ⟨_, xs, _, S, Q0, rfl, h1, h2, rs, hw, cl⟩
  cases b with
  | sum => exact lst .sum rfl hw
  | all => exact lst .all rfl hw
  | any => exact lst .any rfl hw
  | sorted => exact lst .sorted rfl hw
  | maxl => exact lst .max rfl hw
  | abs =>
    obtain ⟨d, rfl, hw⟩ := on1E hw
    obtain ⟨i, rfl, hw⟩ := onIE hw
    obtain ⟨v, rfl, rv⟩ := rr.one
    cases rv
    exact call_abs pins s σ H _ us Q I r ⟨_, rfl, cl.same rs hw (.int _)⟩
  | int =>
    obtain ⟨d, rfl, hw⟩ := on1E hw
    obtain ⟨v, rfl, rv⟩ := rr.one
    cases d with
    | int i => cases rv; exact call_int1 pins s σ H _ us Q I r (.inl ⟨_, rfl, cl.same rs hw (.int _)⟩)
    | bl i => cases rv; exact call_int1 pins s σ H _ us Q I r (.inr ⟨_, rfl, cl.same rs hw (.int _)⟩)
    | _ => exact hw.elim
  | str =>
    obtain ⟨d, rfl, hw⟩ := on1E hw
    obtain ⟨i, rfl, hw⟩ := onIE hw
    obtain ⟨v, rfl, rv⟩ := rr.one
    cases rv
    exact call_str_int pins s σ H _ us Q I r ⟨_, rfl, hw.1, cl.same rs hw.2 (.str _)⟩
  | max2 =>
    obtain ⟨d, e, rfl, hw⟩ := on2E hw
    obtain ⟨i, rfl, hw⟩ := onIE hw
    obtain ⟨j, rfl, hw⟩ := onIE hw
    obtain ⟨v, w, rfl, rv, rv'⟩ := rr.two
    cases rv
    cases rv'
    exact call_max2 hc pins s σ H _ us Q I r ⟨_, _, rfl, cl.same rs hw (.int _)⟩
  | min2 =>
    obtain ⟨d, e, rfl, hw⟩ := on2E hw
    obtain ⟨i, rfl, hw⟩ := onIE hw
    obtain ⟨j, rfl, hw⟩ := onIE hw
    obtain ⟨v, w, rfl, rv, rv'⟩ := rr.two
    cases rv
    cases rv'
    exact call_min2 hc pins s σ H _ us Q I r ⟨_, _, rfl, cl.same rs hw (.int _)⟩
  | len =>
    clear lst
    obtain ⟨d, e0, hw'⟩ := on1E hw
    subst e0
    clear hw
    obtain ⟨v, rfl, rv⟩ := rr.one
    cases d with
    | tup ds =>
      obtain ⟨a, xs, rfl, h1, h2⟩ := rv.tupE
      exact call_len pins s σ H _ us Q I r ⟨_, _, rfl, .inr ⟨xs, h1, rfl⟩, by rw [h2.length]; exact cl.same rs hw' (.int _)⟩
    | lk ds =>
      obtain ⟨a, xs, rfl, h1, h2⟩ := rv.lkE
      exact call_len pins s σ H _ us Q I r ⟨_, _, rfl, .inl ⟨xs, h1.sq, rfl⟩, by rw [h2.length]; exact cl.same rs hw' (.int _)⟩
    | str z =>
      cases rv
      exact call_len pins s σ H _ us Q I r ⟨_, _, rfl, ⟨hw'.1, rfl⟩, cl.same rs hw'.2 (.int _)⟩
    | ref a =>
      cases rv
      simp only [lenW] at hw'
      split at hw'
      · rename_i hS
        obtain ⟨xs, h1, h2⟩ := rs.lst hS
        exact call_len pins s σ H _ us Q I r ⟨_, _, rfl, .inl ⟨xs, SqL.of h1, rfl⟩, by rw [h2.length]; exact cl.same rs hw' (.int _)⟩
      · rename_i hS
        obtain ⟨kvs', kds, h1, h2, h3⟩ := rs _ _ hS
        rw [Vals.ref1 r]
        refine len_dK I h1 ?_
        rw [h2.length]
        rw [h3, List.length_map] at hw'
        exact cl.same rs hw' (.int _)
      · exact hw'.elim
    | _ => exact hw'.elim
  | list =>
    clear lst
    obtain ⟨d, e0, hw'⟩ := on1E hw
    subst e0
    clear hw
    obtain ⟨v, rfl, rv⟩ := rr.one
    cases d with
    | tup ds =>
      obtain ⟨a, xs, rfl, h1, h2⟩ := rv.tupE
      exact call_list_of pins s σ H _ us Q I r ⟨a, xs, rfl, .inr h1, fun p hp => cl.new rs hw' h2 hp⟩
    | lk ds =>
      obtain ⟨a, xs, rfl, h1, h2⟩ := rv.lkE
      exact call_list_of pins s σ H _ us Q I r ⟨a, xs, rfl, .inl h1.sq, fun p hp => cl.new rs hw' h2 hp⟩
    | ref a =>
      cases rv
      simp only [listW] at hw'
      split at hw'
      · rename_i hS
        obtain ⟨xs, h1, h2⟩ := rs.lst hS
        exact call_list_of pins s σ H _ us Q I r ⟨_, xs, rfl, .inl (SqL.of h1), fun p hp => cl.new rs hw' h2 hp⟩
      · rename_i hS
        obtain ⟨kvs', kds, h1, h2, h3⟩ := rs _ _ hS
        refine call_list_dK hc pins s σ H _ us Q I r ⟨_, kvs', rfl, h1, fun p hp => cl.new rs hw' ?_ hp⟩
        rw [h3]
        clear h3 h1 hS hw'
        induction h2 with
        | nil => exact .nil
        | @cons k _ _ _ _ _ _ ih => exact .cons (by cases k; exact .int _; exact .str _) ih
      · exact hw'.elim
    | _ => exact hw'.elim
  | tuple =>
    clear lst
    obtain ⟨d, e0, hw'⟩ := on1E hw
    subst e0
    clear hw
    obtain ⟨v, rfl, rv⟩ := rr.one
    cases d with
    | tup ds =>
      obtain ⟨a, xs, rfl, h1, h2⟩ := rv.tupE
      exact call_tuple_of pins s σ H _ us Q I r ⟨a, xs, rfl, .inr ⟨h1, cl.same rs hw' (.tup h1 h2)⟩⟩
    | ref a =>
      cases rv
      simp only [tupW] at hw'
      split at hw'
      · rename_i hS
        obtain ⟨xs, h1, h2⟩ := rs.lst hS
        exact call_tuple_of pins s σ H _ us Q I r ⟨_, xs, rfl, .inl ⟨SqL.of h1, fun p hp => cl.newT rs hw' h2 hp⟩⟩
      · exact hw'.elim
    | _ => exact hw'.elim
end
end Fel
end

section
set_option maxHeartbeats 8000000
/-! The small language's wp, as readings of the hand layer. -/
namespace Fel
open PySem L2 PySem.Spec PyProof.Rows

/-- an exception's field -/
def RepX (K : PySem.W.Frag) (H : Hp) (od : Option Addr) (f : Option D) : Prop :=
  match f, od with
  | none, none => True
  | some d, some dd => ∃ v, H dd = some (.xd [("kind", v)]) ∧ RepV K H v d
  | _, _ => False
def ClE (K : PySem.W.Frag) (H : Hp) (S : Store) (E0 : XW) (W : WX) : Prop := ∀ c f ρ' S' od σ' H', E0 c f ρ' S' → Ext K H S H' S' → RepL K H' σ' ρ' → RepS K H' S' → RepX K H' od f → W (.ref c) od σ' H'
def ClN (K : PySem.W.Frag) (H : Hp) (S : Store) (N0 : KR) (N : L2.St → Hp → Prop) : Prop := ∀ ρ' S' σ' H', N0 ρ' S' → Ext K H S H' S' → RepL K H' σ' ρ' → RepS K H' S' → N σ' H'
def ClB (K : PySem.W.Frag) (H : Hp) (S : Store) (Q0 : Bool → Store → Prop) (Q : Bool → Hp → Prop) : Prop := ∀ d S' H', Q0 d S' → Ext K H S H' S' → RepS K H' S' → Q d H'
def ClA (K : PySem.W.Frag) (n : Nat) (H : Hp) (S : Store) (Q0 : List D → Store → Prop) (Q : List V → Hp → Prop) : Prop := ∀ d S' v H', Q0 d S' → d.length = n → Ext K H S H' S' → RepVs K H' v d → RepS K H' S' → Q v H'
def ClO (K : PySem.W.Frag) (H : Hp) (S : Store) (Q0 : Option Int → Store → Prop) (Q : Option Int → Hp → Prop) : Prop := ∀ d S' H', Q0 d S' → Ext K H S H' S' → RepS K H' S' → Q d H'
theorem ClE.ext {K : PySem.W.Frag} {H H1 : Hp} {S S1 : Store} {E0 : XW} {W : WX} (cl : ClE K H S E0 W) (e : Ext K H S H1 S1) : ClE K H1 S1 E0 W := fun c f ρ' S' od σ' H' q e' => cl c f ρ' S' od σ' H' q (e.trans e')
theorem ClN.ext {K : PySem.W.Frag} {H H1 : Hp} {S S1 : Store} {N0 : KR} {N : L2.St → Hp → Prop} (cl : ClN K H S N0 N) (e : Ext K H S H1 S1) : ClN K H1 S1 N0 N := fun ρ' S' σ' H' q e' => cl ρ' S' σ' H' q (e.trans e')
theorem ClB.ext {K : PySem.W.Frag} {H H1 : Hp} {S S1 : Store} {Q0 : Bool → Store → Prop} {Q : Bool → Hp → Prop} (cl : ClB K H S Q0 Q) (e : Ext K H S H1 S1) : ClB K H1 S1 Q0 Q := fun d S' H' q e' => cl d S' H' q (e.trans e')
theorem ClA.ext {K : PySem.W.Frag} {H H1 : Hp} {S S1 : Store} {Q0 : List D → Store → Prop} {Q : List V → Hp → Prop} {n : Nat} (cl : ClA K n H S Q0 Q) (e : Ext K H S H1 S1) : ClA K n H1 S1 Q0 Q := fun d S' v H' q hn e' => cl d S' v H' q hn (e.trans e')
theorem ClO.ext {K : PySem.W.Frag} {H H1 : Hp} {S S1 : Store} {Q0 : Option Int → Store → Prop} {Q : Option Int → Hp → Prop} (cl : ClO K H S Q0 Q) (e : Ext K H S H1 S1) : ClO K H1 S1 Q0 Q := fun d S' H' q e' => cl d S' H' q (e.trans e')

abbrev WE0 := XW → Rho → Store → K1 → Prop
section
variable (K : PySem.W.Frag) (W : WX)
def tSem (w : WE0) : TE := fun σ H Q => ∃ ρ S Q0 E0, RepL K H σ ρ ∧ RepS K H S ∧ w E0 ρ S Q0 ∧ Cl K H S Q0 Q ∧ ClE K H S E0 W
def tSemB (w : XW → Rho → Store → (Bool → Store → Prop) → Prop) : TT := fun σ H Q => ∃ ρ S Q0 E0, RepL K H σ ρ ∧ RepS K H S ∧ w E0 ρ S Q0 ∧ ClB K H S Q0 Q ∧ ClE K H S E0 W
def tSemA (n : Nat) (w : XW → Rho → Store → (List D → Store → Prop) → Prop) : TA := fun σ H Q => ∃ ρ S Q0 E0, RepL K H σ ρ ∧ RepS K H S ∧ w E0 ρ S Q0 ∧ ClA K n H S Q0 Q ∧ ClE K H S E0 W
def tSemO (w : XW → Rho → Store → (Option Int → Store → Prop) → Prop) : TO := fun σ H Q => ∃ ρ S Q0 E0, RepL K H σ ρ ∧ RepS K H S ∧ w E0 ρ S Q0 ∧ ClO K H S Q0 Q ∧ ClE K H S E0 W
def sSem (w : XW → Rho → Store → Ends' → Prop) : TS := fun D σ H => ∃ ρ S D0 E0, RepL K H σ ρ ∧ RepS K H S ∧ w E0 ρ S D0 ∧ ClN K H S D0.nx D.nx ∧ Cl K H S D0.rt D.rt ∧ ClE K H S E0 W
end
theorem _root_.L2.PE.imp {X : Cx} {e : Expr} {t t' : TE} (h : PE X e t) (f : ∀ σ H Q, t' σ H Q → t σ H Q) : PE X e t' := ⟨fun pins s σ H Q I q => h.run pins s σ H Q I (f _ _ _ q)⟩
theorem _root_.L2.PT.imp {X : Cx} {e : Expr} {t t' : TT} (h : PT X e t) (f : ∀ σ H Q, t' σ H Q → t σ H Q) : PT X e t' := ⟨fun pins s σ H Q I q => h.run pins s σ H Q I (f _ _ _ q)⟩
theorem _root_.L2.PW.imp {X : Cx} {e : Expr} {t t' : TT} (h : PW X e t) (f : ∀ σ H Q, t' σ H Q → t σ H Q) : PW X e t' := ⟨fun wh pins s σ H Q I q => h.run wh pins s σ H Q I (f _ _ _ q)⟩
theorem _root_.L2.PA.imp {X : Cx} {e : List Expr} {t t' : TA} (h : PA X e t) (f : ∀ σ H Q, t' σ H Q → t σ H Q) : PA X e t' := ⟨fun pos pins s σ H Q I q => h.run pos pins s σ H Q I (f _ _ _ q)⟩
theorem _root_.L2.PO.imp {X : Cx} {e : Option Expr} {t t' : TO} (h : PO X e t) (f : ∀ σ H Q, t' σ H Q → t σ H Q) : PO X e t' := ⟨fun pins s σ H Q I q => h.run pins s σ H Q I (f _ _ _ q)⟩
theorem _root_.L2.PS.imp {X : Cx} {e : Stmt} {t t' : TS} (h : PS X e t) (f : ∀ D σ H, t' D σ H → t D σ H) : PS X e t' := ⟨fun pins s σ H D I q => h.run pins s σ H D I (f _ _ _ q)⟩
theorem _root_.L2.PSs.imp {X : Cx} {e : List Stmt} {t t' : TS} (h : PSs X e t) (f : ∀ D σ H, t' D σ H → t D σ H) : PSs X e t' := ⟨fun pins s σ H D I q => h.run pins s σ H D I (f _ _ _ q)⟩
theorem _root_.L2.PI.imp {X : Cx} {tg e : Expr} {t t' : TI} (h : PI X tg e t) (f : ∀ σ H Q, t' σ H Q → t σ H Q) : PI X tg e t' := ⟨fun pins s σ H Q I q => h.run pins s σ H Q I (f _ _ _ q)⟩
theorem _root_.L2.PG.imp {X : Cx} {e : Expr} {t t' : TG} (h : PG X e t) (f : ∀ v σ H Q, t' v σ H Q → t v σ H Q) : PG X e t' := ⟨fun pins s σ H v u Q I r q => h.run pins s σ H v u Q I r (f _ _ _ _ q)⟩
theorem _root_.L2.PGs.imp {X : Cx} {e : List Expr} {t t' : TGs} (h : PGs X e t) (f : ∀ v σ H Q, t' v σ H Q → t v σ H Q) : PGs X e t' := ⟨fun pins s σ H v u Q I r q => h.run pins s σ H v u Q I r (f _ _ _ _ q)⟩

section
variable {X : Cx} {W : WX}
/-- X's own: one expression, then something of its value -/
theorem un_imp {w : WE0} {w' : WE0} {r : V → Hp → VK → Prop}
    (h : ∀ E ρ S Q0, w' E ρ S Q0 → w E ρ S fun x S1 => ∃ (Z : Prop), Z ∧ ∀ v H1 Q, Z → RepV X.K H1 v x → RepS X.K H1 S1 → Cl X.K H1 S1 Q0 Q → r v H1 Q) :
    ∀ σ H Q, tSem X.K W w' σ H Q → tUn r (tSem X.K W w) σ H Q := fun σ H Q ⟨ρ, S, Q0, E0, rl, rs, hw, cl, ce⟩ =>
  ⟨ρ, S, _, E0, rl, rs, h _ _ _ _ hw, fun d S1 v H1 ⟨Z, z, q⟩ e r' rs' => q v H1 Q z r' rs' (cl.ext e), ce⟩

theorem getV_iff : ∀ {ρ : Rho} {i : Nat} {k : D → Prop}, getV ρ i k → ∃ d, ρ[i]? = some (some d) ∧ k d
  | [], _, _, h => h.elim
  | some d :: _, 0, _, h => ⟨d, rfl, h⟩
  | none :: _, 0, _, h => h.elim
  | none :: r, i + 1, k, h => by
    obtain ⟨d, h1, h2⟩ := getV_iff (ρ := r) (i := i) h
    exact ⟨d, by simpa using h1, h2⟩
  | some _ :: r, i + 1, k, h => by
    obtain ⟨d, h1, h2⟩ := getV_iff (ρ := r) (i := i) h
    exact ⟨d, by simpa using h1, h2⟩
theorem se_var {i : Nat} {x : Str} {pos : Pos} (hN : X.N[i]? = some x) (hv : Vis X.env.scope x) (hd : (x == ("__debug__" : Str)) = false) (hcd : (x == ("__classdict__" : Str)) = false) : PE X (.Name x pos) (tSem X.K W fun _ ρ S Q => getV ρ i fun d => Q d S) :=
  (pe_var hN hv hd hcd).imp fun σ H Q ⟨ρ, S, Q0, E0, rl, rs, hw, cl, ce⟩ => by
    obtain ⟨d, h1, h2⟩ := getV_iff hw
    obtain ⟨v, h3, h4⟩ := rl.2 i d h1
    exact ⟨v, h3, cl.same rs h2 h4⟩
theorem se_con {e : Expr} {v : V} {d : D} (h : PE X e (tC v)) (r : ∀ H, RepV X.K H v d) : PE X e (tSem X.K W fun _ ρ S Q => Q d S) :=
  h.imp fun σ H Q ⟨ρ, S, Q0, E0, rl, rs, hw, cl, ce⟩ => cl.same rs hw (r H)
variable {a b c : Expr} {wa wb wc : WE0} {pos : Pos}
theorem se_op {o : Op2} (ha : PE X a (tSem X.K W wa)) (hb : PE X b (tSem X.K W wb)) : PE X (.BinOp a (oper o) b pos) (tSem X.K W fun E ρ S Q => wa E ρ S fun x S1 => wb E ρ S1 fun y S2 => opS o x y S2 Q) :=
  (pe_op (op_okX o) ha hb).imp fun σ H Q ⟨ρ, S, Q0, E0, rl, rs, hw, cl, ce⟩ =>
    ⟨ρ, S, _, E0, rl, rs, hw, fun d S1 v H1 hq e1 r1 rs1 => ⟨ρ, S1, _, E0, rl.ext e1.tup, rs1, hq, fun d2 S2 v2 H2 hq2 e2 r2 rs2 => ⟨d, d2, S2, Q0, r1.ext e2.tup, r2, rs2, hq2, cl.ext (e1.trans e2)⟩, ce.ext e1⟩, ce⟩
theorem se_neg (ha : PE X a (tSem X.K W wa)) : PE X (.UnaryOp .USub a pos) (tSem X.K W fun E ρ S Q => wa E ρ S fun x S1 => onI x fun i => Q (.int (-i)) S1) :=
  (pe_un un_neg ha).imp fun σ H Q ⟨ρ, S, Q0, E0, rl, rs, hw, cl, ce⟩ =>
    ⟨ρ, S, _, E0, rl, rs, hw, fun d S1 v H1 hq e1 r1 rs1 => by
      obtain ⟨i, rfl, q⟩ := onIE hq
      exact ⟨i, r1.intE, cl _ _ _ _ q e1 (.int _) rs1⟩, ce⟩
theorem cm_imp {o : Cm} : ∀ σ H Q, tSem X.K W (fun E ρ S Q => wa E ρ S fun x S1 => wb E ρ S1 fun y S2 => cmW o S2 x y fun r => Q (.bl r) S2) σ H Q → tOp (rCm X.K o) (tSem X.K W wa) (tSem X.K W wb) σ H Q :=
  fun σ H Q ⟨ρ, S, Q0, E0, rl, rs, hw, cl, ce⟩ =>
    ⟨ρ, S, _, E0, rl, rs, hw, fun d S1 v H1 hq e1 r1 rs1 => ⟨ρ, S1, _, E0, rl.ext e1.tup, rs1, hq, fun d2 S2 v2 H2 hq2 e2 r2 rs2 => ⟨d, d2, S2, _, r1.ext e2.tup, r2, rs2, hq2, fun b hb => cl _ _ _ _ hb (e1.trans e2) (.bl b) rs2⟩, ce.ext e1⟩, ce⟩
theorem se_cmp {o : Cm} (hu : X.A.units + 190 < cLine) (ha : PE X a (tSem X.K W wa)) (hb : PE X b (tSem X.K W wb)) (hm : behindInMarks (cmOp o) b = false) :
    PE X (.Compare a [cmOp o] [b] pos) (tSem X.K W fun E ρ S Q => wa E ρ S fun x S1 => wb E ρ S1 fun y S2 => cmW o S2 x y fun r => Q (.bl r) S2) :=
  (pe_cmpR (cm_okX hu o) ha hb hm).imp cm_imp
theorem sb_cmp {o : Cm} (hu : X.A.units + 190 < cLine) (ha : PE X a (tSem X.K W wa)) (hb : PE X b (tSem X.K W wb)) (hm : behindInMarks (cmOp o) b = false) :
    PT X (.Compare a [cmOp o] [b] pos) (tSemB X.K W fun E ρ S Q => wa E ρ S fun x S1 => wb E ρ S1 fun y S2 => cmW o S2 x y fun r => Q r S2) :=
  (pt_cmpR (cm_okX hu o) ha hb hm).imp fun σ H Q ⟨ρ, S, Q0, E0, rl, rs, hw, cl, ce⟩ =>
    cm_imp σ H _ ⟨ρ, S, fun d S' => onB d fun b => Q0 b S', E0, rl, rs, hw, fun d S1 v H1 hq e1 r1 rs1 => by
      obtain ⟨i, rfl, q⟩ := onBE hq
      exact ⟨i, r1.blE, cl _ _ _ q e1 rs1⟩, ce⟩
theorem chain_imp {o o' : Cm} : ∀ σ H Q, tSem X.K W (fun E ρ S Q => wa E ρ S fun x S1 => wb E ρ S1 fun y S2 => cmW o S2 x y fun r => if r = true then wc E ρ S2 fun z S3 => cmW o' S3 y z fun r' => Q (.bl r') S3 else Q (.bl false) S2) σ H Q →
    tChain (rCm X.K o) (rCm X.K o') (tSem X.K W wa) (tSem X.K W wb) (tSem X.K W wc) σ H Q :=
  fun σ H Q ⟨ρ, S, Q0, E0, rl, rs, hw, cl, ce⟩ =>
    ⟨ρ, S, _, E0, rl, rs, hw, fun d S1 v H1 hq e1 r1 rs1 => ⟨ρ, S1, _, E0, rl.ext e1.tup, rs1, hq, fun d2 S2 v2 H2 hq2 e2 r2 rs2 => ⟨d, d2, S2, _, r1.ext e2.tup, r2, rs2, hq2, fun b hb => ⟨b, rfl, by
      split at hb
      · rename_i hbt
        rw [if_pos hbt]
        exact ⟨ρ, S2, _, E0, rl.ext (e1.trans e2).tup, rs2, hb, fun d3 S3 v3 H3 hq3 e3 r3 rs3 => ⟨d2, d3, S3, _, r2.ext e3.tup, r3, rs3, hq3, fun b' hb' => cl _ _ _ _ hb' ((e1.trans e2).trans e3) (.bl b') rs3⟩, ce.ext (e1.trans e2)⟩
      · rename_i hbt
        rw [if_neg hbt]
        exact cl _ _ _ _ hb (e1.trans e2) (.bl false) rs2⟩⟩, ce.ext e1⟩, ce⟩
theorem strs_rep {K : PySem.W.Frag} {H : Hp} : ∀ {ds : List D} {ys : List Str} {xs : List V}, strsOf ds = some ys → RepVs K H xs ds → xs = ys.map V.str
  | [], ys, xs, h, r => by cases h; cases r; rfl
  | d :: ds, ys, xs, h, r => by
    cases d with
    | str z =>
      simp only [strsOf, Option.map_eq_some_iff] at h
      obtain ⟨zs, h1, rfl⟩ := h
      cases r with
      | cons a b => rw [strs_rep h1 b, a.strE]; rfl
    | _ => simp [strsOf] at h
theorem se_join {j : Str} {k : Nat} {p apos cpos : Pos} (ha : PE X a (tSem X.K W wa)) (hs : starEach [a] X.env = [(false, eval a X.env)]) (hl : (apos.endLine == cpos.line) = true) :
    PE X (.Call (.Attribute (.Constant (.str j) k p) "join" apos) [a] [] cpos) (tSem X.K W fun E ρ S Q => wa E ρ S fun x S1 => joinW S1 x j fun z => Q (.str z) S1) :=
  (pe_join pe_str ha hs rfl hl).imp fun σ H Q ⟨ρ, S, Q0, E0, rl, rs, hw, cl, ce⟩ => ⟨⟨j, rfl⟩, ρ, S, _, E0, rl, rs, hw, fun d S1 v H1 hq e1 r1 rs1 => by
    unfold joinW at hq
    obtain ⟨p, ds, rfl, hS, hq⟩ := onLE hq
    split at hq
    · rename_i ys hy
      obtain ⟨xs, h1, h2⟩ := rs1.lst hS
      have := strs_rep hy h2
      subst this
      rw [r1.refE]
      exact ⟨j, p, ys, rfl, rfl, .inl (SqL.of h1), hq.1, cl _ _ _ _ hq.2 e1 (.str _) rs1⟩
    · exact hq.elim, ce⟩
/-! and, or, not -/
theorem se_and {r : List Expr} (ha : PE X a (tSem X.K W wa)) (hb : PE X (.BoolOp .And (b :: r) pos) (tSem X.K W wb)) : PE X (.BoolOp .And (a :: b :: r) pos) (tSem X.K W fun E ρ S Q => wa E ρ S fun x S1 => onB x fun c => if c = true then wb E ρ S1 Q else Q (.bl false) S1) :=
  (pe_and ha hb).imp fun σ H Q ⟨ρ, S, Q0, E0, rl, rs, hw, cl, ce⟩ =>
    ⟨ρ, S, _, E0, rl, rs, hw, fun d S1 v H1 hq e1 r1 rs1 => by
      obtain ⟨i, rfl, q⟩ := onBE hq
      refine ⟨i, r1.blE, ?_⟩
      split at q
      · rename_i hi; rw [if_pos hi]; exact ⟨ρ, S1, _, E0, rl.ext e1.tup, rs1, q, cl.ext e1, ce.ext e1⟩
      · rename_i hi; rw [if_neg hi]; exact cl _ _ _ _ q e1 (.bl _) rs1, ce⟩
theorem se_or {r : List Expr} (ha : PE X a (tSem X.K W wa)) (hb : PE X (.BoolOp .Or (b :: r) pos) (tSem X.K W wb)) : PE X (.BoolOp .Or (a :: b :: r) pos) (tSem X.K W fun E ρ S Q => wa E ρ S fun x S1 => onB x fun c => if c = true then Q (.bl true) S1 else wb E ρ S1 Q) :=
  (pe_or ha hb).imp fun σ H Q ⟨ρ, S, Q0, E0, rl, rs, hw, cl, ce⟩ =>
    ⟨ρ, S, _, E0, rl, rs, hw, fun d S1 v H1 hq e1 r1 rs1 => by
      obtain ⟨i, rfl, q⟩ := onBE hq
      refine ⟨i, r1.blE, ?_⟩
      split at q
      · rename_i hi; rw [if_pos hi]; exact cl _ _ _ _ q e1 (.bl _) rs1
      · rename_i hi; rw [if_neg hi]; exact ⟨ρ, S1, _, E0, rl.ext e1.tup, rs1, q, cl.ext e1, ce.ext e1⟩, ce⟩
theorem se_not (ha : PE X a (tSem X.K W wa)) : PE X (.UnaryOp .Not a pos) (tSem X.K W fun E ρ S Q => wa E ρ S fun x S1 => onB x fun c => Q (.bl (!c)) S1) :=
  (pe_not ha).imp fun σ H Q ⟨ρ, S, Q0, E0, rl, rs, hw, cl, ce⟩ =>
    ⟨ρ, S, _, E0, rl, rs, hw, fun d S1 v H1 hq e1 r1 rs1 => by
      obtain ⟨i, rfl, q⟩ := onBE hq
      exact ⟨i, r1.blE, cl _ _ _ _ q e1 (.bl _) rs1⟩, ce⟩
abbrev WB0 := XW → Rho → Store → (Bool → Store → Prop) → Prop
variable {ta tb : WB0}
theorem sb_and {r : List Expr} (ha : PT X a (tSemB X.K W ta)) (hb : PW X (.BoolOp .And (b :: r) pos) (tSemB X.K W tb)) : PW X (.BoolOp .And (a :: b :: r) pos) (tSemB X.K W fun E ρ S Q => ta E ρ S fun c S1 => if c = true then tb E ρ S1 Q else Q false S1) :=
  (pw_and ha hb).imp fun σ H Q ⟨ρ, S, Q0, E0, rl, rs, hw, cl, ce⟩ =>
    ⟨ρ, S, _, E0, rl, rs, hw, fun d S1 H1 q e1 rs1 => by
      dsimp only at q ⊢
      split at q
      · rename_i hi; rw [if_pos hi]; exact ⟨ρ, S1, _, E0, rl.ext e1.tup, rs1, q, cl.ext e1, ce.ext e1⟩
      · rename_i hi; rw [if_neg hi]; exact cl _ _ _ q e1 rs1, ce⟩
theorem sb_or {r : List Expr} (ha : PT X a (tSemB X.K W ta)) (hb : PW X (.BoolOp .Or (b :: r) pos) (tSemB X.K W tb)) : PW X (.BoolOp .Or (a :: b :: r) pos) (tSemB X.K W fun E ρ S Q => ta E ρ S fun c S1 => if c = true then Q true S1 else tb E ρ S1 Q) :=
  (pw_or ha hb).imp fun σ H Q ⟨ρ, S, Q0, E0, rl, rs, hw, cl, ce⟩ =>
    ⟨ρ, S, _, E0, rl, rs, hw, fun d S1 H1 q e1 rs1 => by
      dsimp only at q ⊢
      split at q
      · rename_i hi; rw [if_pos hi]; exact cl _ _ _ q e1 rs1
      · rename_i hi; rw [if_neg hi]; exact ⟨ρ, S1, _, E0, rl.ext e1.tup, rs1, q, cl.ext e1, ce.ext e1⟩, ce⟩
theorem sb_not (ha : PT X a (tSemB X.K W ta)) : PT X (.UnaryOp .Not a pos) (tSemB X.K W fun E ρ S Q => ta E ρ S fun c S1 => Q (!c) S1) :=
  (pt_not ha).imp fun σ H Q ⟨ρ, S, Q0, E0, rl, rs, hw, cl, ce⟩ => ⟨ρ, S, _, E0, rl, rs, hw, fun d S1 H1 q e1 rs1 => cl _ _ _ q e1 rs1, ce⟩
/-- any expression whose value is a truth, as a test -/
theorem sb_val (ha : PE X a (tSem X.K W wa)) (he : ∀ whole, isTrue a X.env whole = (do let v ← whole; standAt a.pos; holding [v] (truthy v))) : PT X a (tSemB X.K W fun E ρ S Q => wa E ρ S fun x S1 => onB x fun c => Q c S1) :=
  (pt_val ha he).imp fun σ H Q ⟨ρ, S, Q0, E0, rl, rs, hw, cl, ce⟩ => ⟨ρ, S, _, E0, rl, rs, hw, fun d S1 v H1 hq e1 r1 rs1 => by
      obtain ⟨i, rfl, q⟩ := onBE hq
      exact ⟨i, r1.blE, cl _ _ _ q e1 rs1⟩, ce⟩
theorem se_ife (hc : PT X c (tSemB X.K W ta)) (ha : PE X a (tSem X.K W wa)) (hb : PE X b (tSem X.K W wb)) : PE X (.IfExp c a b pos) (tSem X.K W fun E ρ S Q => ta E ρ S fun k S1 => if k = true then wa E ρ S1 Q else wb E ρ S1 Q) :=
  (pe_ifExp hc ha hb).imp fun σ H Q ⟨ρ, S, Q0, E0, rl, rs, hw, cl, ce⟩ => ⟨ρ, S, _, E0, rl, rs, hw, fun d S1 H1 q e1 rs1 => by
      dsimp only at q ⊢
      split at q
      · rename_i hi; rw [if_pos hi]; exact ⟨ρ, S1, _, E0, rl.ext e1.tup, rs1, q, cl.ext e1, ce.ext e1⟩
      · rename_i hi; rw [if_neg hi]; exact ⟨ρ, S1, _, E0, rl.ext e1.tup, rs1, q, cl.ext e1, ce.ext e1⟩, ce⟩
/-! arguments, displays -/
abbrev WA0 := XW → Rho → Store → (List D → Store → Prop) → Prop
variable {wr : WA0} {es : List Expr}
theorem sa_nil : PA X [] (tSemA X.K W 0 fun _ _ S Q => Q [] S) := pa_nil.imp fun σ H Q ⟨ρ, S, Q0, E0, rl, rs, hw, cl, ce⟩ => cl _ _ _ _ hw rfl Ext.refl .nil rs
theorem sa_cons {n : Nat} (ha : PE X a (tSem X.K W wa)) (hr : PA X es (tSemA X.K W n wr)) (hs : starEach (a :: es) X.env = (false, eval a X.env) :: starEach es X.env) : PA X (a :: es) (tSemA X.K W (n + 1) fun E ρ S Q => wa E ρ S fun x S1 => wr E ρ S1 fun xs S2 => Q (x :: xs) S2) :=
  (pa_cons ha hr hs).imp fun σ H Q ⟨ρ, S, Q0, E0, rl, rs, hw, cl, ce⟩ =>
    ⟨ρ, S, _, E0, rl, rs, hw, fun d S1 v H1 hq e1 r1 rs1 => ⟨ρ, S1, _, E0, rl.ext e1.tup, rs1, hq, fun d2 S2 v2 H2 hq2 hn e2 r2 rs2 => cl _ _ _ _ hq2 (by simp [hn]) (e1.trans e2) (.cons (r1.ext e2.tup) r2) rs2, ce.ext e1⟩, ce⟩
theorem se_tup {x1 : Nat} {n : Nat} (h : PA X es (tSemA X.K W n wr)) (hn : n ≤ 1000) : PE X (.Tuple es x1 pos) (tSem X.K W fun E ρ S Q => wr E ρ S fun ds S1 => Q (.tup ds) S1) :=
  (pe_tup h).imp fun σ H Q ⟨ρ, S, Q0, E0, rl, rs, hw, cl, ce⟩ =>
    ⟨ρ, S, _, E0, rl, rs, hw, fun d S1 v H1 hq hd e1 r1 rs1 => ⟨by rw [r1.length, hd]; exact Nat.le_of_lt (small1000 hn), fun p hp => (cl.ext e1).newT rs1 hq r1 hp⟩, ce⟩
theorem se_lst {n : Nat} (h : PA X es (tSemA X.K W n wr)) (hn : n ≤ 1000) : PE X (.List es pos) (tSem X.K W fun E ρ S Q => wr E ρ S fun ds S1 => ∀ p, S1 p = none → Q (.ref p) (S1.upd p (.lst ds))) :=
  (pe_lst h).imp fun σ H Q ⟨ρ, S, Q0, E0, rl, rs, hw, cl, ce⟩ =>
    ⟨ρ, S, _, E0, rl, rs, hw, fun d S1 v H1 hq hd e1 r1 rs1 => ⟨by rw [r1.length, hd]; exact Nat.le_of_lt (small1000 hn), fun p hp => (cl.ext e1).new rs1 hq r1 hp⟩, ce⟩
theorem se_dnew : PE X (.Dict [] [] pos) (tSem X.K W fun _ _ S Q => ∀ p, S p = none → Q (.ref p) (S.upd p (.dic []))) :=
  pe_dnewK.imp fun σ H Q ⟨ρ, S, Q0, E0, rl, rs, hw, cl, ce⟩ p hp => cl _ _ _ _ (hw p (rs.none hp)) (Ext.alloc hp fun a h e => Store.upd_none h e) (.ref p) (rs.alloc hp ⟨[], [], L2.upd_same, .nil, rfl⟩)
/-! subscripts, slices -/
theorem atI_rep {K : PySem.W.Frag} {H : Hp} {vs : List V} {ds : List D} {i : Int} {d : D} (r : RepVs K H vs ds) (h : atI ds i = some d) : ∃ v, atI vs i = some v ∧ RepV K H v d := by
  unfold atI at h ⊢
  rw [r.length]
  cases e : ixN ds.length i with
  | none => rw [e] at h; cases h
  | some j =>
    rw [e] at h
    exact r.get h
theorem ix_dict (hu : X.A.units + 1 < cLine) : IxR X (fun x y H Q => ∃ a v, x = .ref a ∧ DGet H a y (some v) ∧ Q v H) := by
  intro value slice pins s σ H x y v u Q I rx ry h hs
  obtain ⟨a, v', rfl, g, q⟩ := h
  cases rx
  have ht := dict_typeIs I g
  refine tail_any (ops := [.ref a, u]) ht (PySem.F.slot_dict_getitem.lookup) ?_ hs
  exact d_getItem hu I g ry fun w' s' I' r => ⟨v', H, I', r, q⟩
theorem ix_okX (hu : X.A.units + 1 < cLine) : IxR X (fun x y H Q => ∃ d e S Q0, RepV X.K H x d ∧ RepV X.K H y e ∧ RepS X.K H S ∧ idxW S d e (fun z => Q0 z S) ∧ Cl X.K H S Q0 Q) := by
  intro value slice pins s σ H x y v u Q I rx ry h hs
  obtain ⟨d, e, S, Q0, r1, r2, rs, hw, cl⟩ := h
  cases d with
  | tup ds =>
    cases e with
    | int i =>
      obtain ⟨a, xs, rfl, h1, h2⟩ := r1.tupE
      rw [r2.intE] at ry
      simp only [idxW] at hw
      split at hw
      · rename_i z hz
        obtain ⟨w, h3, h4⟩ := atI_rep h2 hz
        exact ix_tup value slice pins s σ H _ _ v u Q I rx ry ⟨a, xs, i, w, rfl, rfl, h1, h3, cl.same rs hw h4⟩ hs
      · exact hw.elim
    | _ => exact hw.elim
  | lk ds =>
    cases e with
    | int i =>
      obtain ⟨a, xs, rfl, h1, h2⟩ := r1.lkE
      rw [r2.intE] at ry
      simp only [idxW] at hw
      split at hw
      · rename_i z hz
        obtain ⟨w, h3, h4⟩ := atI_rep h2 hz
        exact ix_list value slice pins s σ H _ _ v u Q I rx ry ⟨a, xs, i, w, rfl, rfl, h1.sq, h3, cl.same rs hw h4⟩ hs
      · exact hw.elim
    | _ => exact hw.elim
  | str z =>
    cases e with
    | int i =>
      rw [r1.strE] at rx
      rw [r2.intE] at ry
      obtain ⟨hl, hw⟩ := hw
      simp only at hw
      split at hw
      · rename_i c hc
        exact ix_str value slice pins s σ H _ _ v u Q I rx ry ⟨z, i, c, rfl, rfl, hl, hc, cl.same rs hw (.str _)⟩ hs
      · exact hw.elim
    | _ => exact hw.elim
  | ref a =>
    rw [r1.refE] at rx
    simp only [idxW] at hw
    split at hw
    · rename_i ds hS
      obtain ⟨xs, h1, h2⟩ := rs.lst hS
      cases e with
      | int i =>
        rw [r2.intE] at ry
        simp only at hw
        split at hw
        · rename_i z hz
          obtain ⟨w, h3, h4⟩ := atI_rep h2 hz
          exact ix_list value slice pins s σ H _ _ v u Q I rx ry ⟨a, xs, i, w, rfl, rfl, SqL.of h1, h3, cl.same rs hw h4⟩ hs
        · exact hw.elim
      | _ => exact hw.elim
    · rename_i kvs hS
      obtain ⟨kvs', kds, h1, h2, h3⟩ := rs a _ hS
      obtain ⟨hk, hw⟩ := hw
      split at hw
      · rename_i z hz
        obtain ⟨k, e1, e2⟩ := keyOf r2 hk
        rw [h3, e2] at hz
        obtain ⟨w, h4, h5⟩ := val_key k h2 hz
        refine ix_dict hu value slice pins s σ H _ _ v u Q I rx ry ⟨a, w, rfl, ?_, cl.same rs hw h5⟩ hs
        have g := DGet.k (k := k) h1
        rw [h4, ← e1] at g
        exact g
      · exact hw.elim
    · exact hw.elim
  | _ => exact hw.elim
theorem se_idx (hu : X.A.units + 1 < cLine) (ha : PE X a (tSem X.K W wa)) (hb : PE X b (tSem X.K W wb)) (hs : PlainIx b) : PE X (.Subscript a b pos) (tSem X.K W fun E ρ S Q => wa E ρ S fun x S1 => wb E ρ S1 fun y S2 => idxW S2 x y fun d => Q d S2) :=
  (pe_ix (ix_okX hu) ha hb hs).imp fun σ H Q ⟨ρ, S, Q0, E0, rl, rs, hw, cl, ce⟩ =>
    ⟨ρ, S, _, E0, rl, rs, hw, fun d S1 v H1 hq e1 r1 rs1 => ⟨ρ, S1, _, E0, rl.ext e1.tup, rs1, hq, fun d2 S2 v2 H2 hq2 e2 r2 rs2 => ⟨d, d2, S2, Q0, r1.ext e2.tup, r2, rs2, hq2, cl.ext (e1.trans e2)⟩, ce.ext e1⟩, ce⟩
abbrev WO0 := XW → Rho → Store → (Option Int → Store → Prop) → Prop
variable {wl wh : WO0} {lo hi : Option Expr} {p2 : Pos}
theorem so_none : PO X none (tSemO X.K W fun _ _ S Q => Q none S) := po_none.imp fun σ H Q ⟨ρ, S, Q0, E0, rl, rs, hw, cl, ce⟩ => cl _ _ _ hw Ext.refl rs
theorem so_some (ha : PE X a (tSem X.K W wa)) : PO X (some a) (tSemO X.K W fun E ρ S Q => wa E ρ S fun x S1 => onI x fun i => Q (some i) S1) :=
  (po_some ha).imp fun σ H Q ⟨ρ, S, Q0, E0, rl, rs, hw, cl, ce⟩ => ⟨ρ, S, _, E0, rl, rs, hw, fun d S1 v H1 hq e1 r1 rs1 => by
      obtain ⟨i, rfl, q⟩ := onIE hq
      exact ⟨i, r1.intE, cl _ _ _ q e1 rs1⟩, ce⟩
theorem RepVs.cut {K : PySem.W.Frag} {H : Hp} {vs : List V} {ds : List D} (r : RepVs K H vs ds) (lo hi : Option Int) : RepVs K H (cutV vs lo hi) (cutD ds lo hi) := by
  unfold cutV cutD
  rw [r.length]
  exact (r.drop _).take _
theorem sl_okX : SlR X (fun x lo hi H Q => ∃ d S Q0, RepV X.K H x d ∧ RepS X.K H S ∧ slcW S d lo hi Q0 ∧ Cl X.K H S Q0 Q) := by
  intro pins s σ H x v vl vu lo hi sl Q I rx hs pl pu h
  obtain ⟨d, S, Q0, r1, rs, hw, cl⟩ := h
  cases d with
  | tup ds =>
    obtain ⟨a, xs, rfl, h1, h2⟩ := r1.tupE
    refine sl_tupA pins s σ H _ v vl vu lo hi sl Q I rx hs pl pu ⟨a, xs, rfl, h1, fun hh => ?_, fun _ p hp => cl.newT rs hw (h2.cut lo hi) hp⟩
    refine cl.same rs hw (.tup h1 ?_)
    have e : cutD ds lo hi = ds := by unfold cutD; rw [← h2.length, hh.1, hh.2, List.drop_zero, Nat.sub_zero, h2.length, List.take_length]
    rw [e]; exact h2
  | lk ds =>
    obtain ⟨a, xs, rfl, h1, h2⟩ := r1.lkE
    exact sl_list pins s σ H _ v vl vu lo hi sl Q I rx hs pl pu ⟨a, xs, rfl, h1.sq, fun p hp => cl.new rs hw (h2.cut lo hi) hp⟩
  | str z =>
    rw [r1.strE] at rx
    exact sl_str pins s σ H _ v vl vu lo hi sl Q I rx hs pl pu ⟨z, rfl, hw.1, cl.same rs hw.2 (.str _)⟩
  | ref a =>
    rw [r1.refE] at rx
    simp only [slcW] at hw
    split at hw
    · rename_i ds hS
      obtain ⟨xs, h1, h2⟩ := rs.lst hS
      exact sl_list pins s σ H _ v vl vu lo hi sl Q I rx hs pl pu ⟨a, xs, rfl, SqL.of h1, fun p hp => cl.new rs hw (h2.cut lo hi) hp⟩
    · exact hw.elim
  | _ => exact hw.elim

theorem se_slc (ha : PE X a (tSem X.K W wa)) (hl : PO X lo (tSemO X.K W wl)) (hh : PO X hi (tSemO X.K W wh)) : PE X (.Subscript a (.Slice lo hi none p2) pos) (tSem X.K W fun E ρ S Q => wa E ρ S fun x S1 => wl E ρ S1 fun l S2 => wh E ρ S2 fun h S3 => slcW S3 x l h Q) :=
  (pe_slice sl_okX ha hl hh).imp fun σ H Q ⟨ρ, S, Q0, E0, rl, rs, hw, cl, ce⟩ =>
    ⟨ρ, S, _, E0, rl, rs, hw, fun d S1 v H1 hq e1 r1 rs1 => ⟨ρ, S1, _, E0, rl.ext e1.tup, rs1, hq, fun d2 S2 H2 hq2 e2 rs2 => ⟨ρ, S2, _, E0, rl.ext (e1.trans e2).tup, rs2, hq2, fun d3 S3 H3 hq3 e3 rs3 => ⟨d, S3, Q0, r1.ext (e2.trans e3).tup, rs3, hq3, cl.ext ((e1.trans e2).trans e3)⟩, ce.ext (e1.trans e2)⟩, ce.ext e1⟩, ce⟩
theorem se_rev {k : Nat} {p1 p3 : Pos} (ha : PE X a (tSem X.K W wa)) : PE X (.Subscript a (.Slice none none (some (.UnaryOp .USub (.Constant (.int 1) k p1) p2)) p3) pos) (tSem X.K W fun E ρ S Q => wa E ρ S fun x S1 => onL S1 x fun ds => ∀ p, S1 p = none → Q (.ref p) (S1.upd p (.lst ds.reverse))) :=
  (pe_revL ha).imp fun σ H Q ⟨ρ, S, Q0, E0, rl, rs, hw, cl, ce⟩ => ⟨ρ, S, _, E0, rl, rs, hw, fun d S1 v H1 hq e1 r1 rs1 => by
      obtain ⟨q, ds, rfl, hS, q⟩ := onLE hq
      obtain ⟨xs, h1, h2⟩ := rs1.lst hS
      exact ⟨_, xs, r1.refE, SqL.of h1, fun p hp => (cl.ext e1).new rs1 q h2.reverse hp⟩, ce⟩
/-! calls -/
/-- a promise of the small language, as the hand layer's -/
def lift (K : PySem.W.Frag) (sp : FSp) : Sp := fun vs H Q E => ∃ ds S Q0, ∃ E0 : Addr → Option D → Store → Prop, ds.length = sp.ar ∧ RepVs K H vs ds ∧ RepS K H S ∧ sp.run ds S Q0 E0 ∧ Cl K H S Q0 Q ∧
  ∀ c f S' od H', E0 c f S' → Ext K H S H' S' → RepS K H' S' → RepX K H' od f → E (.ref c) od H'
theorem se_call {f : Addr} {fd : FuncData} {ps : List Str} {k : Nat} {sp : FSp} {x : Str} {p : Pos} (F : FnOk X.prog X.w X.K X.mg X.base (L2.CX X.prog X.w) k f fd ps (lift X.K sp)) (hr : Room k X.A) (hg : Gl X x) (hm : X.mg x = some (.ref f)) (hk : PySem.W.keepIn X.K (.ref f) = true)
    (hb : Binds X.K fd ps []) (tk : Takes X W) {n : Nat} (ha : PA X (a :: es) (tSemA X.K W n wr)) (hdb : (x == ("__debug__" : Str)) = false) (he : starEach (a :: es) X.env = (false, eval a X.env) :: starEach es X.env) (hpl : (backTo pos (starEach es X.env)).any (·.1) = false) :
    PE X (.Call (.Name x p) (a :: es) [] pos) (tSem X.K W fun E ρ S Q => wr E ρ S fun ds S1 => ds.length = sp.ar ∧ sp.run ds S1 Q fun c g S' => E c g ρ S') :=
  (pe_callS F hr hg hm hk hb (fun σ => passAt tk σ) ha hdb he hpl).imp fun σ H Q ⟨ρ, S, Q0, E0, rl, rs, hw, cl, ce⟩ =>
    ⟨ρ, S, _, E0, rl, rs, hw, fun d S1 v H1 hq _ e1 r1 rs1 => ⟨d, S1, Q0, _, hq.1, r1, rs1, hq.2, cl.ext e1, fun c f S' od H' h e2 rs2 rx => ce c f ρ S' od σ H' h (e1.trans e2) (rl.ext (e1.trans e2).tup) rs2 rx⟩, ce⟩
theorem se_call0 {f : Addr} {fd : FuncData} {ps : List Str} {k : Nat} {sp : FSp} {x : Str} {p : Pos} (F : FnOk X.prog X.w X.K X.mg X.base (L2.CX X.prog X.w) k f fd ps (lift X.K sp)) (hr : Room k X.A) (hg : Gl X x) (hm : X.mg x = some (.ref f)) (hk : PySem.W.keepIn X.K (.ref f) = true)
    (hb : Binds X.K fd ps []) (tk : Takes X W) (hdb : (x == ("__debug__" : Str)) = false) :
    PE X (.Call (.Name x p) [] [] pos) (tSem X.K W fun E ρ S Q => 0 = sp.ar ∧ sp.run [] S Q fun c g S' => E c g ρ S') := by
  have B : PE X (.Call (.Name x p) [] [] pos) (fun σ H Q => lift X.K sp [] H Q (WE W σ)) := by
    refine ⟨fun pins s σ H Q I h => ?_⟩
    refine wpAny_Call_Name_kw (ld_glob I hg hm ?_ hdb)
    exact PySem.W.callWith_K0 I.kIn hk (run_fnS (us := []) F hr hb (passAt tk σ) I .nil h)
  exact B.imp fun σ H Q ⟨ρ, S, Q0, E0, rl, rs, hw, cl, ce⟩ =>
    ⟨[], S, Q0, _, hw.1, .nil, rs, hw.2, cl, fun c f S' od H' h e2 rs2 rx => ce c f ρ S' od σ H' h e2 (rl.ext e2.tup) rs2 rx⟩
theorem se_bt {b : Bt} {id : String} {x : Str} {p : Pos} (hc : X.calm = true) (hu : X.A.units + 195 < cLine) (hV : btV b = .builtin id ∨ btV b = .type id) (hg : Gl X x) (hm : X.mg x = none) (hv : bootBuiltins x = some (btV b)) (hn : x ≠ "__name__") (hdb : (x == ("__debug__" : Str)) = false)
    {n : Nat} (ha : PA X (a :: es) (tSemA X.K W n wr)) (he : starEach (a :: es) X.env = (false, eval a X.env) :: starEach es X.env) (hpl : (backTo pos (starEach es X.env)).any (·.1) = false) :
    PE X (.Call (.Name x p) (a :: es) [] pos) (tSem X.K W fun E ρ S Q => wr E ρ S fun ds S1 => btW b ds S1 Q) := by
  have imp : ∀ σ H Q, tSem X.K W (fun E ρ S Q => wr E ρ S fun ds S1 => btW b ds S1 Q) σ H Q → tCB (rBt X.K b) (tSemA X.K W n wr) σ H Q := fun σ H Q ⟨ρ, S, Q0, E0, rl, rs, hw, cl, ce⟩ =>
    ⟨ρ, S, _, E0, rl, rs, hw, fun d S1 v H1 hq _ e1 r1 rs1 => ⟨d, S1, Q0, r1, rs1, hq, cl.ext e1⟩, ce⟩
  have B := bt_ok (X := X) hc hu b
  rcases hV with e | e
  · rw [e] at B hv
    exact (pe_callB B hg hm hv ha hn hdb he hpl).imp imp
  · rw [e] at B hv
    exact (pe_callTy B hg hm hv ha hn hdb he hpl).imp imp
/-- an expression that gives a new list -/
def ClL (K : PySem.W.Frag) (H : Hp) (S : Store) (L0 : List D → Store → Prop) (Q : VK) : Prop := ∀ ds S' p xs H', L0 ds S' → Ext K H S H' S' → RepVs K H' xs ds → RepS K H' S' → H' p = some (.lst xs) → S' p = none → H p = none → Q (.ref p) H'
def tSemL (K : PySem.W.Frag) (W : WX) (w : WA0) : TE := fun σ H Q => ∃ ρ S L0 E0, RepL K H σ ρ ∧ RepS K H S ∧ w E0 ρ S L0 ∧ ClL K H S L0 Q ∧ ClE K H S E0 W
theorem RepS.add {K : PySem.W.Frag} {H : Hp} {S : Store} {p : Addr} {u : Ob} (r : RepS K H S) (n : RepO K H p u) : RepS K H (S.upd p u) := fun a w h => by
  by_cases e : a = p
  · subst e; rw [Store.upd_same] at h; cases h; exact n
  · rw [Store.upd_ne e] at h; exact r a w h
theorem se_ofL {w : WA0} {e : Expr} (h : PE X e (tSemL X.K W w)) : PE X e (tSem X.K W fun E ρ S Q => w E ρ S fun ds S1 => ∀ p, S1 p = none → Q (.ref p) (S1.upd p (.lst ds))) :=
  h.imp fun σ H Q ⟨ρ, S, Q0, E0, rl, rs, hw, cl, ce⟩ => ⟨ρ, S, _, E0, rl, rs, hw, fun ds S' p xs H' hq e r rs' hp hS h0 =>
    cl _ _ _ _ (hq p hS) ⟨e.tup, e.dom, fun a h1 h2 => Store.upd_none (fun z => h1 (by rw [z]; exact h0)) (e.new a h1 h2), e.frm⟩ (.ref p) (rs'.add ⟨xs, hp, r⟩), ce⟩
/-- a built-in called with a list comprehension: the list is forgotten -/
theorem se_btl {b : BtL} {id : String} {x : Str} {p : Pos} {w : WA0} (hc : X.calm = true) (hu : X.A.units + 195 < cLine) (hV : btlV b = .builtin id ∨ btlV b = .type id) (hg : Gl X x) (hm : X.mg x = none) (hv : bootBuiltins x = some (btlV b)) (hn : x ≠ "__name__") (hdb : (x == ("__debug__" : Str)) = false)
    (ha : PE X a (tSemL X.K W w)) (he : starEach [a] X.env = (false, eval a X.env) :: starEach [] X.env) :
    PE X (.Call (.Name x p) [a] [] pos) (tSem X.K W fun E ρ S Q => w E ρ S fun ds S1 => btlW b ds S1 Q) := by
  have imp : ∀ σ H Q, tSem X.K W (fun E ρ S Q => w E ρ S fun ds S1 => btlW b ds S1 Q) σ H Q → tCB (rBtL X.K b) (tCons (tSemL X.K W w) tNil) σ H Q := fun σ H Q ⟨ρ, S, Q0, E0, rl, rs, hw, cl, ce⟩ =>
    ⟨ρ, S, _, E0, rl, rs, hw, fun ds S' p xs H' hq e r rs' hp hS h0 => ⟨p, xs, ds, S', Q0, rfl, hp, r, rs', hq, cl.ext e⟩, ce⟩
  have B := btl_ok (X := X) hc hu b
  rcases hV with e | e
  · rw [e] at B hv
    exact (pe_callB B hg hm hv (pa_cons ha pa_nil he) hn hdb he rfl).imp imp
  · rw [e] at B hv
    exact (pe_callTy B hg hm hv (pa_cons ha pa_nil he) hn hdb he rfl).imp imp
/-! targets -/
def gSem (K : PySem.W.Frag) (sl : List Nat) (bind : D → Rho → (Rho → Prop) → Prop) : TG := fun v σ H Q => ∃ d ρ, ∃ k : Rho → Prop, RepV K H v d ∧ RepL K H σ ρ ∧ bind d ρ k ∧ ∀ ρ' σ', k ρ' → RepL K H σ' ρ' → σ'.length = σ.length → (∀ i, i ∉ sl → σ'[i]? = σ[i]?) → Q σ' H
def gSems (K : PySem.W.Frag) (sl : List Nat) (bind : List D → Rho → (Rho → Prop) → Prop) : TGs := fun v σ H Q => ∃ d ρ, ∃ k : Rho → Prop, RepVs K H v d ∧ RepL K H σ ρ ∧ bind d ρ k ∧ ∀ ρ' σ', k ρ' → RepL K H σ' ρ' → σ'.length = σ.length → (∀ i, i ∉ sl → σ'[i]? = σ[i]?) → Q σ' H
theorem RepL.set {K : PySem.W.Frag} {H : Hp} {σ : L2.St} {ρ : Rho} {v : V} {d : D} (r : RepL K H σ ρ) (rv : RepV K H v d) (i : Nat) : RepL K H (σ.set i (some v)) (ρ.set i (some d)) := by
  refine ⟨by rw [List.length_set, List.length_set]; exact r.1, fun j d' h => ?_⟩
  by_cases e : i = j
  · subst e
    by_cases hi : i < ρ.length
    · rw [List.getElem?_set_self hi] at h
      cases h
      exact ⟨v, by rw [List.getElem?_set_self (by rw [r.1]; exact hi)], rv⟩
    · rw [List.getElem?_eq_none (by rw [List.length_set]; omega)] at h; cases h
  · rw [List.getElem?_set_ne e] at h
    obtain ⟨w, h1, h2⟩ := r.2 j d' h
    exact ⟨w, by rw [List.getElem?_set_ne e]; exact h1, h2⟩
theorem RepL.setN {K : PySem.W.Frag} {H : Hp} {σ : L2.St} {ρ : Rho} (r : RepL K H σ ρ) (i : Nat) : RepL K H (σ.set i none) (ρ.set i none) := by
  refine ⟨by rw [List.length_set, List.length_set]; exact r.1, fun j d' h => ?_⟩
  by_cases e : i = j
  · subst e
    by_cases hi : i < ρ.length
    · rw [List.getElem?_set_self hi] at h
      cases h
    · rw [List.getElem?_eq_none (by rw [List.length_set]; omega)] at h; cases h
  · rw [List.getElem?_set_ne e] at h
    obtain ⟨w, h1, h2⟩ := r.2 j d' h
    exact ⟨w, by rw [List.getElem?_set_ne e]; exact h1, h2⟩
theorem RepL.wipe {K : PySem.W.Frag} {H : Hp} {σ : L2.St} {ρ : Rho} (r : RepL K H σ ρ) : ∀ vs : List Nat, RepL K H (L2.wipe σ vs) (wipeR ρ vs)
  | [] => r
  | v :: vs => (RepL.wipe r vs).setN v
theorem sg_name {i : Nat} {x : Str} (hN : X.N.Nodup) (hi : X.N[i]? = some x) (hx : Loc X.env.scope x) (hf : X.fn x = true ∨ X.env.scope.names.lookup x = some .local) : PG X (.Name x pos) (gSem X.K [i] (bindT (.name i))) :=
  (pg_name hN hi hx hf).imp fun v σ H Q ⟨d, ρ, k, rv, rl, hb, cl⟩ => cl _ _ hb (rl.set rv i) (List.length_set ..) fun j hj => List.getElem?_set_ne (fun z => hj (by simp [z]))
variable {bd : D → Rho → (Rho → Prop) → Prop} {bds : List D → Rho → (Rho → Prop) → Prop} {sl sl' : List Nat}
theorem sgs_nil : PGs X [] (gSems X.K [] (bindTs .nil)) := pgs_nil.imp fun v σ H Q ⟨d, ρ, k, rv, rl, hb, cl⟩ => by
  obtain ⟨rfl, hk⟩ := hb
  exact ⟨rv.nilE, cl _ _ hk rl rfl fun _ _ => rfl⟩
theorem sgs_cons {e : Expr} {t : Tg} {ts : Tgs} (h1 : PG X e (gSem X.K sl (bindT t))) (h2 : PGs X es (gSems X.K sl' (bindTs ts))) (hs : (assignEach (e :: es) X.env).map (·.2) = assign e X.env :: (assignEach es X.env).map (·.2)) :
    PGs X (e :: es) (gSems X.K (sl ++ sl') (bindTs (.cons t ts))) := (pgs_cons h1 h2 hs).imp fun v σ H Q ⟨d, ρ, k, rv, rl, hb, cl⟩ => by
  cases d with
  | nil => exact hb.elim
  | cons d ds =>
    obtain ⟨v, vs, rfl, r1, r2⟩ := rv.consE
    refine ⟨v, vs, rfl, d, ρ, _, r1, rl, hb, fun ρ1 σ1 hk rl1 l1 n1 => ⟨ds, ρ1, _, r2, rl1, hk, fun ρ2 σ2 hk2 rl2 l2 n2 => cl ρ2 σ2 hk2 rl2 (l2.trans l1) fun i hi => ?_⟩⟩
    rw [List.mem_append, not_or] at hi
    rw [n2 i hi.2, n1 i hi.1]
theorem sg_tup {ts : Tgs} {k n : Nat} (hc : X.calm = true) (h : PGs X es (gSems X.K sl (bindTs ts))) (hn : (assignEach es X.env).length = n) (hst : (assignEach es X.env).findIdx? (·.1) = none) (hl : ∀ ds ρ k, bindTs ts ds ρ k → ds.length = n) :
    PG X (.Tuple es k pos) (gSem X.K sl (bindT (.tup ts))) := (pg_tup hc h hn hst).imp fun v σ H Q ⟨d, ρ, k, rv, rl, hb, cl⟩ => by
  cases d with
  | tup ds =>
    obtain ⟨a, xs, rfl, h1, h2⟩ := rv.tupE
    exact ⟨a, xs, rfl, h1, by rw [h2.length]; exact hl _ _ _ hb, ds, ρ, k, h2, rl, hb, cl⟩
  | _ => exact hb.elim
/-! what is walked -/
def ItSem (K : PySem.W.Frag) (J : It) (ds : List D) (still : Store → Prop) (H0 : Hp) (S0 : Store) : Prop :=
  ∀ i H S, Ext K H0 S0 H S → RepS K H S → still S → i ≤ ds.length →
    (i = ds.length → J.stop i H) ∧ (i < ds.length → J.go i H) ∧ ∀ x H', J.yld i H x H' → i < ds.length → ∃ d, ds[i]? = some d ∧ RepV K H' x d ∧ Ext K H S H' S ∧ RepS K H' S ∧ ∀ a, H a ≠ none → H' a = H a
abbrev WI0 := XW → Rho → Store → (List D → (Store → Prop) → Store → Prop) → Prop
def iSem (K : PySem.W.Frag) (W : WX) (w : WI0) : TI := fun σ H R => ∃ ρ S R0 E0, RepL K H σ ρ ∧ RepS K H S ∧ w E0 ρ S R0 ∧ ClE K H S E0 W ∧ ∀ ds still S' J H', R0 ds still S' → Ext K H S H' S' → RepS K H' S' → ds.length ≤ sizeLine → ItSem K J ds still H' S' → R J H'
variable {wi : WI0} {iter tg : Expr}
/-- a list or a tuple -/
def iSeq (K : PySem.W.Frag) (tl : TE) : TI := fun σ H R => tl σ H fun x H1 => ∃ a, x = .ref a ∧ (((∃ xs, SqL K H1 a xs) ∧ R (Itl K a) H1) ∨ ((∃ xs, SqT K H1 a xs) ∧ R (Itt K a) H1))
theorem pi_seq {l : Expr} {tl : TE} (hl : PE X l tl) : PI X tg l (iSeq X.K tl) := by
  refine ⟨fun pins s σ H R I h => ?_⟩
  refine thn (hl.run pins s σ H _ I h) fun v s1 ⟨x, H1, I1, r1, q1⟩ => ?_
  obtain ⟨a, e, q1⟩ := q1
  subst e
  cases r1
  rcases q1 with ⟨⟨xs, hq⟩, q⟩ | ⟨⟨xs, hq⟩, q⟩
  · obtain ⟨its, rv, p, hz⟩ := I1.list hq
    refine wpAny_pyIter_list p.isList ?_
    refine ⟨s1.heap.objs.size, [s1.heap.objs.size], _, _, H1, rfl, I1.kept (t' := s1.toks) fun b o e => Heap.get?_push_of_some _ e, turn_list a _, ⟨_, Heap.get?_push_size _ rfl, rfl, rfl⟩, fun b hb => ?_, q⟩
    have e : b = s1.heap.objs.size := by simpa using hb
    subst e
    exact I1.fpOk (Nat.le_refl _) (I1.hok.fresh (Nat.le_refl _))
  · obtain ⟨its, rv, p, hz⟩ := I1.tuple hq
    refine wpAny_pyIter_tuple (show s1.heap.IsTuple a its.toArray from p) ?_
    refine ⟨s1.heap.objs.size, [s1.heap.objs.size], _, _, H1, rfl, I1.kept (t' := s1.toks) fun b o e => Heap.get?_push_of_some _ e, turn_tuple a _, ⟨_, Heap.get?_push_size _ rfl, rfl, rfl⟩, fun b hb => ?_, q⟩
    have e : b = s1.heap.objs.size := by simpa using hb
    subst e
    exact I1.fpOk (Nat.le_refl _) (I1.hok.fresh (Nat.le_refl _))
section
variable {K : PySem.W.Frag} {H H0 H1 : Hp} {S S0 : Store}
theorem it_tup {a : Addr} {xs : List V} {ds : List D} (h : SqT K H0 a xs) (r : RepVs K H0 xs ds) : ItSem K (Itt K a) ds (fun _ => True) H0 S0 := fun i H S e rs _ hi => by
  have h' := e.tup.t a xs h
  refine ⟨fun z => ⟨xs, h', by rw [r.length, z]; exact Nat.le_refl _⟩, fun z => ?_, fun x H' y z => ?_⟩
  · obtain ⟨v, h1, _⟩ := (r.ext e.tup).get (List.getElem?_eq_getElem z)
    exact ⟨xs, v, h', h1⟩
  · obtain ⟨v, h1, h2⟩ := (r.ext e.tup).get (List.getElem?_eq_getElem z)
    obtain ⟨rfl, y⟩ := y
    have := y xs h'
    rw [h1] at this
    cases this
    exact ⟨_, List.getElem?_eq_getElem z, h2, Ext.refl, rs, fun _ _ => rfl⟩
theorem it_lk {a : Addr} {xs : List V} {ds : List D} (h : LkL K H0 a xs) (r : RepVs K H0 xs ds) : ItSem K (Itl K a) ds (fun _ => True) H0 S0 := fun i H S e rs _ hi => by
  have h1' := e.tup.l a xs h
  have h' := h1'.sq
  refine ⟨fun z => ⟨xs, h', by rw [r.length, z]; exact Nat.le_refl _⟩, fun z => ?_, fun x H' y z => ?_⟩
  · obtain ⟨v, h1, _⟩ := (r.ext e.tup).get (List.getElem?_eq_getElem z)
    exact ⟨xs, v, h', h1⟩
  · obtain ⟨v, h1, h2⟩ := (r.ext e.tup).get (List.getElem?_eq_getElem z)
    obtain ⟨rfl, y⟩ := y
    have := y xs h'
    rw [h1] at this
    cases this
    exact ⟨_, List.getElem?_eq_getElem z, h2, Ext.refl, rs, fun _ _ => rfl⟩
theorem it_lst {a : Addr} {ds : List D} : ItSem K (Itl K a) ds (fun S' => S' a = some (.lst ds)) H0 S0 := fun i H S e rs hS hi => by
  obtain ⟨xs, h', r⟩ := rs.lst hS
  refine ⟨fun z => ⟨xs, SqL.of h', by rw [r.length, z]; exact Nat.le_refl _⟩, fun z => ?_, fun x H' y z => ?_⟩
  · obtain ⟨v, h1, _⟩ := r.get (List.getElem?_eq_getElem z)
    exact ⟨xs, v, SqL.of h', h1⟩
  · obtain ⟨v, h1, h2⟩ := r.get (List.getElem?_eq_getElem z)
    obtain ⟨rfl, y⟩ := y
    have := y xs (SqL.of h')
    rw [h1] at this
    cases this
    exact ⟨_, List.getElem?_eq_getElem z, h2, Ext.refl, rs, fun _ _ => rfl⟩
theorem it_rngR {n : Nat} : ItSem K (Itc (0 + (n : Int) - 1) (-1) n) (rngD 0 n).reverse (fun _ => True) H0 S0 := fun i H S e rs _ hi => by
  have hl : (rngD 0 n).reverse.length = n := by simp [rngD]
  rw [hl] at hi ⊢
  refine ⟨fun z => by subst z; exact Nat.le_refl _, fun z => z, fun x H' y z => ?_⟩
  obtain ⟨rfl, rfl⟩ := y
  refine ⟨.int (0 + (n : Int) - 1 + (i : Nat) * (-1)), ?_, .int _, Ext.refl, rs, fun _ _ => rfl⟩
  rw [List.getElem?_reverse (by simpa [rngD] using z)]
  simp only [rngD, List.length_map, List.length_range, List.getElem?_map]
  rw [List.getElem?_range (by omega)]
  simp only [Option.map_some, Option.some.injEq, D.int.injEq]
  omega
theorem it_rng {lo : Int} {n : Nat} : ItSem K (Itr lo n) (rngD lo n) (fun _ => True) H0 S0 := fun i H S e rs _ hi => by
  have hl : (rngD lo n).length = n := by simp [rngD]
  rw [hl] at hi ⊢
  refine ⟨fun z => by subst z; exact Nat.le_refl _, fun z => z, fun x H' y z => ?_⟩
  obtain ⟨rfl, rfl⟩ := y
  exact ⟨.int (lo + i), by simp [rngD, z], .int _, Ext.refl, rs, fun _ _ => rfl⟩
end
end
end Fel
end

section
set_option maxHeartbeats 8000000
/-! Walks, loops, comprehensions, statements. -/
namespace Fel
open PySem L2 PySem.Spec PyProof.Rows
section
variable {K : PySem.W.Frag} {H H0 H1 : Hp} {S S0 : Store}
theorem zip_get : ∀ {xs ys : List D} {i : Nat}, i < (zipD xs ys).length → ∃ x y, xs[i]? = some x ∧ ys[i]? = some y ∧ (zipD xs ys)[i]? = some (.tup [x, y]) := by
  intro xs ys i h
  unfold zipD at h ⊢
  rw [List.length_zipWith] at h
  have h1 : i < xs.length := by omega
  have h2 : i < ys.length := by omega
  exact ⟨xs[i], ys[i], List.getElem?_eq_getElem h1, List.getElem?_eq_getElem h2, by simp [List.getElem?_zipWith, List.getElem?_eq_getElem h1, List.getElem?_eq_getElem h2]⟩
theorem pairs_get {ds : List D} {i : Nat} {d : D} (h : ds[i]? = some d) : (pairs ds)[i]? = some (.tup [.int (i : Nat), d]) := by
  unfold pairs
  simp [List.getElem?_map, List.getElem?_zipIdx, h]
theorem pairs_length (ds : List D) : (pairs ds).length = ds.length := by simp [pairs]
theorem new_pair {T : Addr} {v w : V} {x y : D} (rs : RepS K H S) (hT : H T = none) (r1 : RepV K H v x) (r2 : RepV K H w y) : RepV K (L2.upd H T (.tup [v, w])) (.ref T) (.tup [x, y]) ∧ Ext K H S (L2.upd H T (.tup [v, w])) S ∧ RepS K (L2.upd H T (.tup [v, w])) S ∧ ∀ a, H a ≠ none → L2.upd H T (.tup [v, w]) a = H a :=
  ⟨.tup (.inl (.inl L2.upd_same)) (.cons (r1.ext (sqT_upd hT)) (.cons (r2.ext (sqT_upd hT)) .nil)), Ext.alloc hT fun a _ e => e, rs.alloc0 hT, fun a h => L2.upd_ne fun z => h (by rw [z]; exact hT)⟩
theorem it_enm {a : Addr} {ds : List D} : ItSem K (Ite K a) (pairs ds) (fun S' => S' a = some (.lst ds)) H0 S0 := fun i H S e rs hS hi => by
  rw [pairs_length] at hi ⊢
  obtain ⟨xs, h', r⟩ := rs.lst hS
  refine ⟨fun z => ⟨xs, SqL.of h', by rw [r.length, z]; exact Nat.le_refl _⟩, fun z => ?_, fun x H' y z => ?_⟩
  · obtain ⟨v, h1, _⟩ := r.get (List.getElem?_eq_getElem z)
    exact ⟨xs, v, SqL.of h', h1⟩
  · obtain ⟨v, h1, h2⟩ := r.get (List.getElem?_eq_getElem z)
    obtain ⟨T, w, rfl, hT, rfl, y⟩ := y
    have := y xs (SqL.of h')
    rw [h1] at this
    cases this
    obtain ⟨q1, q2, q3⟩ := new_pair rs hT (.int (i : Nat)) h2
    exact ⟨_, pairs_get (List.getElem?_eq_getElem z), q1, q2, q3⟩
theorem it_enmK {a : Addr} {xs : List V} {ds : List D} (h : LkL K H0 a xs) (r : RepVs K H0 xs ds) : ItSem K (Ite K a) (pairs ds) (fun _ => True) H0 S0 := fun i H S e rs hS hi => by
  rw [pairs_length] at hi ⊢
  have h' := (e.tup.l a xs h).sq
  have r := r.ext e.tup
  refine ⟨fun z => ⟨xs, h', by rw [r.length, z]; exact Nat.le_refl _⟩, fun z => ?_, fun x H' y z => ?_⟩
  · obtain ⟨v, h1, _⟩ := r.get (List.getElem?_eq_getElem z)
    exact ⟨xs, v, h', h1⟩
  · obtain ⟨v, h1, h2⟩ := r.get (List.getElem?_eq_getElem z)
    obtain ⟨T, w, rfl, hT, rfl, y⟩ := y
    have := y xs h'
    rw [h1] at this
    cases this
    obtain ⟨q1, q2, q3⟩ := new_pair rs hT (.int (i : Nat)) h2
    exact ⟨_, pairs_get (List.getElem?_eq_getElem z), q1, q2, q3⟩
theorem it_revK {a : Addr} {xs : List V} {ds : List D} (h : LkL K H0 a xs) (r : RepVs K H0 xs ds) : ItSem K (Itv K a ds.length) ds.reverse (fun _ => True) H0 S0 := fun i H S e rs hS hi => by
  rw [List.length_reverse] at hi ⊢
  have h' := (e.tup.l a xs h).sq
  have r := r.ext e.tup
  refine ⟨fun z => by subst z; exact Nat.le_refl _, fun z => ?_, fun x H' y z => ?_⟩
  · obtain ⟨v, h1, _⟩ := r.get (List.getElem?_eq_getElem (show ds.length - 1 - i < ds.length by omega))
    exact ⟨z, xs, v, h', h1⟩
  · obtain ⟨v, h1, h2⟩ := r.get (List.getElem?_eq_getElem (show ds.length - 1 - i < ds.length by omega))
    obtain ⟨rfl, y⟩ := y
    have := y xs h'
    rw [h1] at this
    cases this
    exact ⟨_, by rw [List.getElem?_reverse z]; exact List.getElem?_eq_getElem (show ds.length - 1 - i < ds.length by omega), h2, Ext.refl, rs, fun _ _ => rfl⟩
theorem it_zipT {a b : Addr} {xs ys : List V} {ds es : List D} (h : SqT K H0 a xs) (r : RepVs K H0 xs ds) (h2 : SqT K H0 b ys) (r2 : RepVs K H0 ys es) : ItSem K (RZ.ItzT K a b) (zipD ds es) (fun _ => True) H0 S0 := fun i H S e rs _ hi => by
  have k1 := e.tup.t a xs h
  have k2 := e.tup.t b ys h2
  have hl : (zipD ds es).length = min ds.length es.length := by simp [zipD]
  refine ⟨fun z => ⟨xs, ys, k1, k2, ?_⟩, fun z => ?_, fun x H' y z => ?_⟩
  · rw [r.length, r2.length]; rw [hl] at z; omega
  · obtain ⟨x, y, g1, g2, _⟩ := zip_get z
    obtain ⟨v, e1, _⟩ := (r.ext e.tup).get g1
    obtain ⟨w, e2, _⟩ := (r2.ext e.tup).get g2
    exact ⟨xs, ys, v, w, k1, k2, e1, e2⟩
  · obtain ⟨x', y', g1, g2, g3⟩ := zip_get z
    obtain ⟨v, e1, q1⟩ := (r.ext e.tup).get g1
    obtain ⟨w, e2, q2⟩ := (r2.ext e.tup).get g2
    obtain ⟨T, v', w', rfl, hT, rfl, y1, y2⟩ := y
    have z1 := y1 xs k1
    rw [e1] at z1
    cases z1
    have z2 := y2 ys k2
    rw [e2] at z2
    cases z2
    obtain ⟨p1, p2, p3⟩ := new_pair rs hT q1 q2
    exact ⟨_, g3, p1, p2, p3⟩
theorem it_zipL {a b : Addr} {ds es : List D} : ItSem K (Itz K a b) (zipD ds es) (fun S' => S' a = some (.lst ds) ∧ S' b = some (.lst es)) H0 S0 := fun i H S e rs hS hi => by
  obtain ⟨xs, h', r⟩ := rs.lst hS.1
  obtain ⟨ys, h2', r2⟩ := rs.lst hS.2
  have k1 : SqL K H a xs := SqL.of h'
  have k2 : SqL K H b ys := SqL.of h2'
  have hl : (zipD ds es).length = min ds.length es.length := by simp [zipD]
  refine ⟨fun z => ⟨xs, ys, k1, k2, ?_⟩, fun z => ?_, fun x H' y z => ?_⟩
  · rw [r.length, r2.length]; rw [hl] at z; omega
  · obtain ⟨x, y, g1, g2, _⟩ := zip_get z
    obtain ⟨v, e1, _⟩ := r.get g1
    obtain ⟨w, e2, _⟩ := r2.get g2
    exact ⟨xs, ys, v, w, k1, k2, e1, e2⟩
  · obtain ⟨x', y', g1, g2, g3⟩ := zip_get z
    obtain ⟨v, e1, q1⟩ := r.get g1
    obtain ⟨w, e2, q2⟩ := r2.get g2
    obtain ⟨T, v', w', rfl, hT, rfl, y1, y2⟩ := y
    have z1 := y1 xs k1
    rw [e1] at z1
    cases z1
    have z2 := y2 ys k2
    rw [e2] at z2
    cases z2
    obtain ⟨p1, p2, p3⟩ := new_pair rs hT q1 q2
    exact ⟨_, g3, p1, p2, p3⟩
theorem rev_get {α : Type} {ds : List α} {i : Nat} (h : i < ds.length) : ds.reverse[i]? = ds[ds.length - 1 - i]? := List.getElem?_reverse h
theorem it_revL {a : Addr} {ds : List D} : ItSem K (Itv K a ds.length) ds.reverse (fun S' => S' a = some (.lst ds)) H0 S0 := fun i H S e rs hS hi => by
  rw [List.length_reverse] at hi ⊢
  obtain ⟨xs, h', r⟩ := rs.lst hS
  have hx := r.length
  refine ⟨fun z => by subst z; exact Nat.le_refl _, fun z => ?_, fun x H' y z => ?_⟩
  · obtain ⟨v, h1, _⟩ := r.get (List.getElem?_eq_getElem (show ds.length - 1 - i < ds.length by omega))
    exact ⟨z, xs, v, SqL.of h', h1⟩
  · obtain ⟨v, h1, h2⟩ := r.get (List.getElem?_eq_getElem (show ds.length - 1 - i < ds.length by omega))
    obtain ⟨rfl, y⟩ := y
    have := y xs (SqL.of h')
    rw [h1] at this
    cases this
    exact ⟨_, by rw [rev_get z]; exact List.getElem?_eq_getElem (show ds.length - 1 - i < ds.length by omega), h2, Ext.refl, rs, fun _ _ => rfl⟩
theorem it_revT {a : Addr} {xs : List V} {ds : List D} (h : SqT K H0 a xs) (r : RepVs K H0 xs ds) : ItSem K (RT.ItvT K a ds.length) ds.reverse (fun _ => True) H0 S0 := fun i H S e rs hS hi => by
  rw [List.length_reverse] at hi ⊢
  have h' := e.tup.t a xs h
  have r := r.ext e.tup
  refine ⟨fun z => by subst z; exact Nat.le_refl _, fun z => ?_, fun x H' y z => ?_⟩
  · obtain ⟨v, h1, _⟩ := r.get (List.getElem?_eq_getElem (show ds.length - 1 - i < ds.length by omega))
    exact ⟨z, xs, v, h', h1⟩
  · obtain ⟨v, h1, h2⟩ := r.get (List.getElem?_eq_getElem (show ds.length - 1 - i < ds.length by omega))
    obtain ⟨rfl, y⟩ := y
    have := y xs h'
    rw [h1] at this
    cases this
    exact ⟨_, by rw [rev_get z]; exact List.getElem?_eq_getElem (show ds.length - 1 - i < ds.length by omega), h2, Ext.refl, rs, fun _ _ => rfl⟩
end
def LenOk (K : PySem.W.Frag) (H : Hp) : Prop := ∀ a xs, SqL K H a xs ∨ SqT K H a xs → xs.length ≤ sizeLine
section
variable {X : Cx} {W : WX} {a b c : Expr} {wa wb wc : WE0} {pos : Pos} {wi : WI0} {iter tg : Expr} {bd : D → Rho → (Rho → Prop) → Prop} {sl : List Nat} {es : List Expr}
theorem pi_len {wi : TI} (h : PI X tg iter wi) : PI X tg iter (fun σ H R => wi σ H fun J H' => LenOk X.K H' → R J H') := ⟨fun pins s σ H R I hw =>
  thn (h.run pins s σ H _ I hw) fun v s1 h1 => thn h1 fun itv s2 ⟨it, fp, tn, J, H', e, I2, T, t0, f, r⟩ => ⟨it, fp, tn, J, H', e, I2, T, t0, f, r fun a xs hq => by
    rcases hq with hq | hq
    · obtain ⟨_, _, _, hz⟩ := I2.list hq; exact hz
    · obtain ⟨_, _, _, hz⟩ := I2.tuple hq; exact hz⟩⟩
theorem si_seq (ha : PE X a (tSem X.K W wa)) : PI X tg a (iSem X.K W fun E ρ S Q => wa E ρ S fun x S1 => seqW S1 x fun ds still => Q ds still S1) :=
  (pi_len (pi_seq ha)).imp fun σ H R ⟨ρ, S, R0, E0, rl, rs, hw, ce, cl⟩ => ⟨ρ, S, _, E0, rl, rs, hw, fun d S1 v H1 hq e1 r1 rs1 => by
    cases d with
    | tup ds =>
      obtain ⟨a, xs, rfl, h1, h2⟩ := r1.tupE
      exact ⟨a, rfl, .inr ⟨⟨xs, h1⟩, fun lo => cl _ _ _ _ _ hq e1 rs1 (by rw [← h2.length]; exact lo a xs (.inr h1)) (it_tup h1 h2)⟩⟩
    | lk ds =>
      obtain ⟨a, xs, rfl, h1, h2⟩ := r1.lkE
      exact ⟨a, rfl, .inl ⟨⟨xs, h1.sq⟩, fun lo => cl _ _ _ _ _ hq e1 rs1 (by rw [← h2.length]; exact lo a xs (.inl h1.sq)) (it_lk h1 h2)⟩⟩
    | ref a =>
      simp only [seqW] at hq
      split at hq
      · rename_i ds hS
        obtain ⟨xs, h1, h2⟩ := rs1.lst hS
        exact ⟨a, r1.refE, .inl ⟨⟨xs, SqL.of h1⟩, fun lo => cl _ _ _ _ _ hq e1 rs1 (by rw [← h2.length]; exact lo a xs (.inl (SqL.of h1))) it_lst⟩⟩
      · exact hq.elim
    | _ => exact hq.elim, ce⟩
theorem line_eq : sizeLine = 16777216 := sizeLine_eq
theorem si_rng {p : Pos} (hg : Gl X "range") (hm : X.mg "range" = none) (ha : PE X a (tSem X.K W wa)) (hs : starEach [a] X.env = [(false, eval a X.env)]) : PI X tg (.Call (.Name "range" p) [a] [] pos) (iSem X.K W fun E ρ S Q => wa E ρ S fun x S1 => onI x fun i => -(2 ^ 61) ≤ i ∧ i < 2 ^ 61 ∧ i < 16777216 ∧ Q (rngD 0 i.toNat) (fun _ => True) S1) :=
  (pi_range1 hg hm (pa_cons ha pa_nil hs) hs).imp fun σ H R ⟨ρ, S, R0, E0, rl, rs, hw, ce, cl⟩ => ⟨ρ, S, _, E0, rl, rs, hw, fun d S1 v H1 hq e1 r1 rs1 => by
    obtain ⟨i, rfl, h1, h2, h3, q⟩ := onIE hq
    rw [r1.intE]
    exact ⟨i, rfl, by omega, by omega, cl _ _ _ _ _ q e1 rs1 (by simp only [rngD, List.length_map, List.length_range]; rw [line_eq]; omega) it_rng⟩, ce⟩
theorem si_revr {p p2 pos2 : Pos} (hg : Gl X "range") (hm : X.mg "range" = none) (hg2 : Gl X "reversed") (hm2 : X.mg "reversed" = none) (ha : PE X a (tSem X.K W wa)) (hs : starEach [a] X.env = (false, eval a X.env) :: starEach [] X.env) : PI X tg (.Call (.Name "reversed" p2) [.Call (.Name "range" p) [a] [] pos] [] pos2) (iSem X.K W fun E ρ S Q => wa E ρ S fun x S1 => onI x fun i => -(2 ^ 61) ≤ i ∧ i < 2 ^ 61 ∧ i < 16777216 ∧ Q (rngD 0 i.toNat).reverse (fun _ => True) S1) :=
  (pi_revR hg2 hm2 (prg_1 hg hm ha hs) rfl).imp fun σ H R ⟨ρ, S, R0, E0, rl, rs, hw, ce, cl⟩ => ⟨ρ, S, _, E0, rl, rs, hw, fun d S1 v H1 hq e1 r1 rs1 => by
    obtain ⟨i, rfl, h1, h2, h3, q⟩ := onIE hq
    rw [r1.intE]
    refine ⟨i, rfl, by omega, by omega, by omega, by omega, ?_⟩
    have e : (i - 0).toNat = i.toNat := by omega
    rw [e]
    exact cl _ _ _ _ _ q e1 rs1 (by simp only [rngD, List.length_reverse, List.length_map, List.length_range]; rw [line_eq]; omega) it_rngR, ce⟩
theorem si_rng2 {p : Pos} (hg : Gl X "range") (hm : X.mg "range" = none) (ha : PE X a (tSem X.K W wa)) (hb : PE X b (tSem X.K W wb)) (hs : starEach [a, b] X.env = [(false, eval a X.env), (false, eval b X.env)]) (hs2 : starEach [b] X.env = [(false, eval b X.env)]) :
    PI X tg (.Call (.Name "range" p) [a, b] [] pos) (iSem X.K W fun E ρ S Q => wa E ρ S fun x S1 => wb E ρ S1 fun y S2 => onI x fun i => onI y fun j => -(2 ^ 61) ≤ i ∧ i < 2 ^ 61 ∧ -(2 ^ 61) ≤ j ∧ j < 2 ^ 61 ∧ j - i < 16777216 ∧ Q (rngD i (j - i).toNat) (fun _ => True) S2) :=
  (pi_range2 hg hm (pa_cons ha (pa_cons hb pa_nil hs2) (by rw [hs, hs2])) hs hs2).imp fun σ H R ⟨ρ, S, R0, E0, rl, rs, hw, ce, cl⟩ => ⟨ρ, S, _, E0, rl, rs, hw, fun d S1 v H1 hq e1 r1 rs1 => ⟨ρ, S1, _, E0, rl.ext e1.tup, rs1, hq, fun d2 S2 v2 H2 hq2 e2 r2 rs2 => by
    obtain ⟨i, e0, hq3⟩ := onIE hq2
    subst e0
    clear hq hq2
    obtain ⟨j, e0, h1, h2, h3, h4, h5, q⟩ := onIE hq3
    subst e0
    rw [r1.intE, r2.intE]
    exact ⟨i, j, rfl, ⟨by omega, by omega, by omega, by omega⟩, cl _ _ _ _ _ q (e1.trans e2) rs2 (by simp only [rngD, List.length_map, List.length_range]; rw [line_eq]; omega) it_rng⟩, ce.ext e1⟩, ce⟩
theorem si_zip {p tpos : Pos} {elts : List Expr} {kk : Nat} (hg : Gl X "zip") (hm : X.mg "zip" = none) (ha : PE X a (tSem X.K W wa)) (hb : PE X b (tSem X.K W wb)) (hs : starEach [a, b] X.env = (false, eval a X.env) :: starEach [b] X.env) (hs2 : starEach [b] X.env = (false, eval b X.env) :: starEach [] X.env) (hpl : (backTo pos (starEach [b] X.env)).any (·.1) = false) :
    PI X (.Tuple elts kk tpos) (.Call (.Name "zip" p) [a, b] [] pos) (iSem X.K W fun E ρ S Q => wa E ρ S fun x S1 => wb E ρ S1 fun y S2 => zipW S2 x y fun ds still => Q ds still S2) :=
  (pi_len (RZ.pi_zipA hg hm (pa_cons ha (pa_cons hb pa_nil hs2) hs) hs hpl)).imp fun σ H R ⟨ρ, S, R0, E0, rl, rs, hw, ce, cl⟩ => ⟨ρ, S, _, E0, rl, rs, hw, fun d S1 v H1 hq e1 r1 rs1 => ⟨ρ, S1, _, E0, rl.ext e1.tup, rs1, hq, fun d2 S2 v2 H2 hq2 e2 r2 rs2 => by
    have r1 := r1.ext e2.tup
    have min_le : ∀ (xs : List V) (ds es : List D), RepVs X.K H2 xs ds → xs.length ≤ sizeLine → (zipD ds es).length ≤ sizeLine := fun xs ds es r h => by
      simp only [zipD, List.length_zipWith]
      rw [r.length] at h
      exact Nat.le_trans (Nat.min_le_left _ _) h
    cases d with
    | tup ds =>
      cases d2 with
      | tup es =>
        obtain ⟨a, xs, rfl, h1, h2⟩ := r1.tupE
        obtain ⟨b, ys, rfl, h3, h4⟩ := r2.tupE
        exact ⟨a, b, xs, ys, rfl, .inr ⟨h1, h3, fun lo => cl _ _ _ _ _ hq2 (e1.trans e2) rs2 (min_le _ _ _ h2 (lo a xs (.inr h1))) (it_zipT h1 h2 h3 h4)⟩⟩
      | _ => exact hq2.elim
    | ref a =>
      cases d2 with
      | ref b =>
        simp only [zipW] at hq2
        split at hq2
        · rename_i ds hS
          split at hq2
          · rename_i es hS2
            obtain ⟨xs, h1, h2⟩ := rs2.lst hS
            obtain ⟨ys, h3, h4⟩ := rs2.lst hS2
            rw [r1.refE, r2.refE]
            exact ⟨a, b, xs, ys, rfl, .inl ⟨SqL.of h1, SqL.of h3, fun lo => cl _ _ _ _ _ hq2 (e1.trans e2) rs2 (min_le _ _ _ h2 (lo a xs (.inl (SqL.of h1)))) it_zipL⟩⟩
          · exact hq2.elim
        · exact hq2.elim
      | _ => exact hq2.elim
    | _ => exact hq2.elim, ce.ext e1⟩, ce⟩
theorem si_rev {p : Pos} (hg : Gl X "reversed") (hm : X.mg "reversed" = none) (ha : PE X a (tSem X.K W wa)) (hs : starEach [a] X.env = (false, eval a X.env) :: starEach [] X.env) : PI X tg (.Call (.Name "reversed" p) [a] [] pos) (iSem X.K W fun E ρ S Q => wa E ρ S fun x S1 => seqW S1 x fun ds still => Q ds.reverse still S1) :=
  (pi_len (RT.pi_revA hg hm ha hs)).imp fun σ H R ⟨ρ, S, R0, E0, rl, rs, hw, ce, cl⟩ => ⟨ρ, S, _, E0, rl, rs, hw, fun d S1 v H1 hq e1 r1 rs1 => by
    cases d with
    | tup ds =>
      obtain ⟨a, xs, rfl, h1, h2⟩ := r1.tupE
      exact ⟨a, xs, rfl, .inr ⟨h1, fun lo => by
        rw [h2.length]
        exact cl _ _ _ _ _ hq e1 rs1 (by rw [List.length_reverse, ← h2.length]; exact lo a xs (.inr h1)) (it_revT h1 h2)⟩⟩
    | lk ds =>
      obtain ⟨a, xs, rfl, h1, h2⟩ := r1.lkE
      exact ⟨a, xs, rfl, .inl ⟨h1.sq, fun lo => by
        rw [h2.length]
        exact cl _ _ _ _ _ hq e1 rs1 (by rw [List.length_reverse, ← h2.length]; exact lo a xs (.inl h1.sq)) (it_revK h1 h2)⟩⟩
    | ref a =>
      simp only [seqW] at hq
      split at hq
      · rename_i ds hS
        obtain ⟨xs, h1, h2⟩ := rs1.lst hS
        exact ⟨a, xs, r1.refE, .inl ⟨SqL.of h1, fun lo => by
          rw [h2.length]
          exact cl _ _ _ _ _ hq e1 rs1 (by rw [List.length_reverse, ← h2.length]; exact lo a xs (.inl (SqL.of h1))) it_revL⟩⟩
      · exact hq.elim
    | _ => exact hq.elim, ce⟩
theorem si_enm {p tpos : Pos} {elts : List Expr} {kk : Nat} (hg : Gl X "enumerate") (hm : X.mg "enumerate" = none) (ha : PE X a (tSem X.K W wa)) (hs : starEach [a] X.env = [(false, eval a X.env)]) : PI X (.Tuple elts kk tpos) (.Call (.Name "enumerate" p) [a] [] pos) (iSem X.K W fun E ρ S Q => wa E ρ S fun x S1 => lstW S1 x fun ds still => Q (pairs ds) still S1) :=
  (pi_len (pi_enum hg hm (pa_cons ha pa_nil hs) hs)).imp fun σ H R ⟨ρ, S, R0, E0, rl, rs, hw, ce, cl⟩ => ⟨ρ, S, _, E0, rl, rs, hw, fun d S1 v H1 hq e1 r1 rs1 => by
    cases d with
    | lk ds =>
      obtain ⟨a, xs, rfl, h1, h2⟩ := r1.lkE
      exact ⟨a, xs, rfl, h1.sq, fun lo => cl _ _ _ _ _ hq e1 rs1 (by rw [pairs_length, ← h2.length]; exact lo a xs (.inl h1.sq)) (it_enmK h1 h2)⟩
    | ref a =>
      simp only [lstW] at hq
      split at hq
      · rename_i ds hS
        obtain ⟨xs, h1, h2⟩ := rs1.lst hS
        rw [r1.refE]
        exact ⟨a, xs, rfl, SqL.of h1, fun lo => cl _ _ _ _ _ hq e1 rs1 (by rw [pairs_length, ← h2.length]; exact lo a xs (.inl (SqL.of h1))) it_enm⟩
      · exact hq.elim
    | _ => exact hq.elim, ce⟩

/-! loops -/
abbrev WS0 := XW → Rho → Store → Ends' → Prop
variable {wb' : WS0} {body : List Stmt}
theorem drop_cons {α : Type} {l : List α} {i : Nat} {d : α} (h : l[i]? = some d) : l.drop i = d :: l.drop (i + 1) := by
  obtain ⟨hi, e⟩ := List.getElem?_eq_some_iff.mp h
  rw [← e]; exact List.drop_eq_getElem_cons hi
theorem ss_for (hp : PassesOwn (model X.prog X.w) X.A X.env X.xe) (hc : X.calm = true) (hi : PI X tg iter (iSem X.K W wi)) (hg : PG X tg (gSem X.K sl bd)) (hb : PSs X body (sSem X.K W wb')) (hs : ∀ x, foldedSetIterable iter X.env x = pure x) :
    PS X (.For tg iter body [] pos) (sSem X.K W fun E ρ S D => wi E ρ S fun ds still S1 => wFor bd (fun ρ S k => wb' E ρ S { D with nx := k }) still ds ρ S1 D.nx) :=
  (ps_for hp hc hi hg hb hs).imp fun D σ H ⟨ρ, S, D0, E0, rl, rs, hw, cn, cr, ce⟩ => by
    refine ⟨ρ, S, _, E0, rl, rs, hw, ce, fun ds still S1 J H1 hq e1 rs1 hlen it => ?_⟩
    refine ⟨fun i m σ' H' => m = ds.length - i ∧ i ≤ ds.length ∧ ∃ ρ' S', RepL X.K H' σ' ρ' ∧ RepS X.K H' S' ∧ Ext X.K H1 S1 H' S' ∧ wFor bd (fun ρ S k => wb' E0 ρ S { D0 with nx := k }) still (ds.drop i) ρ' S' D0.nx,
      ⟨ds.length, rfl, Nat.zero_le _, ρ, S1, rl.ext e1.tup, rs1, Ext.refl, hq⟩, ?_⟩
    rintro i m σ' H' ⟨rfl, hi, ρ', S', rl', rs', e', hw'⟩
    by_cases h : i = ds.length
    · rw [h, List.drop_length] at hw'
      exact .inl ⟨(it i H' S' e' rs' hw'.1 hi).1 h, cn _ _ _ _ hw'.2 (e1.trans e') rl' rs'⟩
    · have hlt : i < ds.length := by omega
      rw [drop_cons (List.getElem?_eq_getElem hlt)] at hw'
      obtain ⟨hst, hw'⟩ := hw'
      obtain ⟨_, i2, i3⟩ := it i H' S' e' rs' hst hi
      refine .inr ⟨i2 hlt, _, fun σ2 H2 q => ⟨ds.length - (i + 1), by omega, q⟩, fun x H'' y => ?_⟩
      obtain ⟨d, hd, rd, e2, rs2, _⟩ := i3 x H'' y hlt
      rw [List.getElem?_eq_getElem hlt] at hd
      cases hd
      refine ⟨_, ρ', _, rd, rl'.ext e2.tup, hw', fun ρ1 σ1 hk rl1 _ _ => ⟨ρ1, S', _, E0, rl1, rs2, hk, fun ρ3 S3 σ3 H3 h3 e3 rl3 rs3 => ⟨rfl, hlt, ρ3, S3, rl3, rs3, (e'.trans e2).trans e3, h3⟩, cr.ext ((e1.trans e').trans e2), ce.ext ((e1.trans e').trans e2)⟩⟩
variable {tc : WB0}
theorem ss_while (hp : PassesOwn (model X.prog X.w) X.A X.env X.xe) (hc : PT X c (tSemB X.K W tc)) (hb : PSs X body (sSem X.K W wb')) :
    PS X (.While c body [] pos) (sSem X.K W fun E ρ S D => ∃ n, wWhile (tc E) (fun ρ S k => wb' E ρ S { D with nx := k }) n ρ S D.nx) :=
  (ps_while hp hc hb).imp fun D σ H ⟨ρ, S, D0, E0, rl, rs, ⟨n, hw⟩, cn, cr, ce⟩ => by
    refine ⟨fun m σ' H' => ∃ ρ' S', RepL X.K H' σ' ρ' ∧ RepS X.K H' S' ∧ Ext X.K H S H' S' ∧ wWhile (tc E0) (fun ρ S k => wb' E0 ρ S { D0 with nx := k }) m ρ' S' D0.nx, ⟨n, ρ, S, rl, rs, Ext.refl, hw⟩, ?_⟩
    rintro m σ' H' ⟨ρ', S', rl', rs', e', hw'⟩
    cases m with
    | zero => exact hw'.elim
    | succ m =>
      refine ⟨ρ', S', _, E0, rl', rs', hw', fun b S1 H1 q e1 rs1 => ?_, ce.ext e'⟩
      dsimp only at q ⊢
      split at q
      · rename_i hb; rw [if_pos hb]
        exact ⟨_, fun σ2 H2 q2 => ⟨m, Nat.lt_succ_self _, q2⟩, ρ', S1, _, E0, rl'.ext e1.tup, rs1, q, fun ρ3 S3 σ3 H3 h3 e3 rl3 rs3 => ⟨ρ3, S3, rl3, rs3, (e'.trans e1).trans e3, h3⟩, cr.ext (e'.trans e1), ce.ext (e'.trans e1)⟩
      · rename_i hb; rw [if_neg hb]
        exact cn _ _ _ _ q (e'.trans e1) (rl'.ext e1.tup) rs1
/-! statements -/
variable {sa sb : WS0} {sts : List Stmt} {st : Stmt}
theorem ss_nil : PSs X [] (sSem X.K W fun _ ρ S D => D.nx ρ S) := pss_nil.imp fun D σ H ⟨ρ, S, D0, E0, rl, rs, hw, cn, cr, ce⟩ => cn _ _ _ _ hw Ext.refl rl rs
theorem ss_cons (h1 : PS X st (sSem X.K W sa)) (h2 : PSs X sts (sSem X.K W sb)) : PSs X (st :: sts) (sSem X.K W fun E ρ S D => sa E ρ S { D with nx := fun ρ1 S1 => sb E ρ1 S1 D }) :=
  (pss_cons h1 h2).imp fun D σ H ⟨ρ, S, D0, E0, rl, rs, hw, cn, cr, ce⟩ => ⟨ρ, S, _, E0, rl, rs, hw, fun ρ1 S1 σ1 H1 q e1 rl1 rs1 => ⟨ρ1, S1, D0, E0, rl1, rs1, q, cn.ext e1, cr.ext e1, ce.ext e1⟩, cr, ce⟩
theorem ss_ret (ha : PE X a (tSem X.K W wa)) : PS X (.Return (some a) pos) (sSem X.K W fun E ρ S D => wa E ρ S D.rt) :=
  (ps_ret ha).imp fun D σ H ⟨ρ, S, D0, E0, rl, rs, hw, cn, cr, ce⟩ => ⟨ρ, S, _, E0, rl, rs, hw, cr, ce⟩
theorem ss_retN : PS X (.Return none pos) (sSem X.K W fun E ρ S D => D.rt .non S) :=
  ps_retN.imp fun D σ H ⟨ρ, S, D0, E0, rl, rs, hw, cn, cr, ce⟩ => cr.same rs hw .non
theorem ss_pass : PS X (.Pass pos) (sSem X.K W fun E ρ S D => D.nx ρ S) :=
  ps_pass.imp fun D σ H ⟨ρ, S, D0, E0, rl, rs, hw, cn, cr, ce⟩ => cn _ _ _ _ hw Ext.refl rl rs
theorem ss_ex (ha : PE X a (tSem X.K W wa)) (hs : swapsWith a none pos.line X.env = pure false) : PS X (.Expr a pos) (sSem X.K W fun E ρ S D => wa E ρ S fun _ S1 => D.nx ρ S1) :=
  (ps_expr ha hs).imp fun D σ H ⟨ρ, S, D0, E0, rl, rs, hw, cn, cr, ce⟩ => ⟨ρ, S, _, E0, rl, rs, hw, fun d S1 v H1 q e1 _ rs1 => cn _ _ _ _ q e1 (rl.ext e1.tup) rs1, ce⟩
theorem ss_if {x y : List Stmt} (hc : PT X c (tSemB X.K W tc)) (ha : PSs X x (sSem X.K W sa)) (hb : PSs X y (sSem X.K W sb)) : PS X (.If c x y pos) (sSem X.K W fun E ρ S D => tc E ρ S fun k S1 => if k = true then sa E ρ S1 D else sb E ρ S1 D) :=
  (ps_if hc ha hb).imp fun D σ H ⟨ρ, S, D0, E0, rl, rs, hw, cn, cr, ce⟩ => ⟨ρ, S, _, E0, rl, rs, hw, fun b S1 H1 q e1 rs1 => by
    dsimp only at q ⊢
    split at q
    · rename_i hb; rw [if_pos hb]; exact ⟨ρ, S1, D0, E0, rl.ext e1.tup, rs1, q, cn.ext e1, cr.ext e1, ce.ext e1⟩
    · rename_i hb; rw [if_neg hb]; exact ⟨ρ, S1, D0, E0, rl.ext e1.tup, rs1, q, cn.ext e1, cr.ext e1, ce.ext e1⟩, ce⟩
theorem asg_imp {te : TE} {w : WE0} (hte : te = tSem X.K W w) : ∀ D σ H, sSem X.K W (fun E ρ S D => w E ρ S fun x S1 => bd x ρ fun ρ1 => D.nx ρ1 S1) D σ H → tAsg te (gSem X.K sl bd) D σ H := by
  subst hte
  exact fun D σ H ⟨ρ, S, D0, E0, rl, rs, hw, cn, cr, ce⟩ => ⟨ρ, S, _, E0, rl, rs, hw, fun d S1 v H1 q e1 r1 rs1 => ⟨d, ρ, _, r1, rl.ext e1.tup, q, fun ρ' σ' hk rl' _ _ => cn _ _ _ _ hk e1 rl' rs1⟩, ce⟩
theorem ss_set (ha : PE X a (tSem X.K W wa)) (hg : PG X tg (gSem X.K sl bd)) (hs : swapsWithSole [tg] a pos.line X.env = pure false) (hw : swappedStores [tg] a X.env = pure none) (h1 : (assignEach [tg] X.env).map (·.2) = [assign tg X.env]) :
    PS X (.Assign [tg] a pos) (sSem X.K W fun E ρ S D => wa E ρ S fun x S1 => bd x ρ fun ρ1 => D.nx ρ1 S1) := (ps_asg ha hg hs hw h1).imp (asg_imp rfl)
/-- o[i] = v -/
theorem set_okX (hu : X.A.units + 1 < cLine) : PSet X (fun o i v H Q => ∃ d e z S, ∃ k : Store → Prop, RepV X.K H o d ∧ RepV X.K H i e ∧ RepV X.K H v z ∧ RepS X.K H S ∧ setiW S d e z k ∧ ∀ S' H', k S' → Ext X.K H S H' S' → RepS X.K H' S' → Q H') := by
  intro pins s σ H o i v ov iv u Q I ro ri rv h
  obtain ⟨d, e, z, S, k, r1, r2, r3, rs, hw, cl⟩ := h
  cases d with
  | ref a =>
    rw [r1.refE] at ro
    simp only [setiW] at hw
    split at hw
    · rename_i ds hS
      cases e with
      | int n =>
        rw [r2.intE] at ri
        simp only at hw
        split at hw
        · rename_i j hj
          obtain ⟨xs, h1, h2⟩ := rs.lst hS
          have hm : Mut (some (HO.lst xs)) := True.intro
          refine set_list pins s σ H _ _ _ ov iv u Q I ro ri rv ⟨a, xs, n, j, rfl, rfl, h1, by rw [h2.length]; exact hj, ?_⟩
          refine cl _ _ hw (Ext.write h1 hm (by rw [hS]; exact fun z => nomatch z) fun b e => ?_) (rs.write h1 hm ⟨_, L2.upd_same, (h2.set j r3).ext (sqT_write h1 hm)⟩)
          by_cases y : b = a
          · subst y; rw [hS] at e; cases e
          · exact Store.upd_none y e
        · exact hw.elim
      | _ => exact hw.elim
    · rename_i kvs hS
      obtain ⟨hk, hl, hw⟩ := hw
      obtain ⟨kvs', kds, h1, h2, h3⟩ := rs a _ hS
      obtain ⟨k', e1, e2⟩ := keyOf r2 hk
      have hm : Mut (some (HO.dK kvs')) := True.intro
      obtain ⟨kds', h4, h5⟩ := put_key k' r3 h2
      obtain rfl : ov = Value.ref a := ro
      rw [h3, List.length_map, ← h2.length] at hl
      subst e1
      refine d_setItem hu I (DPut.k h1 hl) ri rv fun s' I' => ⟨_, I', ?_⟩
      refine cl _ _ hw (Ext.write h1 hm (by rw [hS]; exact fun z => nomatch z) fun b e => ?_) (rs.write h1 hm ⟨_, kds', L2.upd_same, h4.ext (sqT_write h1 hm), by rw [h3, e2]; exact h5⟩)
      by_cases y : b = a
      · subst y; rw [hS] at e; cases e
      · exact Store.upd_none y e
    · exact hw.elim
  | _ => exact hw.elim
theorem ss_seti {o i : Expr} {tpos : Pos} {wo wj : WE0} (hu : X.A.units + 1 < cLine) (ha : PE X a (tSem X.K W wa)) (ho : PE X o (tSem X.K W wo)) (hi : PE X i (tSem X.K W wj)) (hf : ∀ v, assign (.Subscript o i tpos) X.env v = (do
      let ov ← holding [v] (eval o X.env)
      let iv ← holding [v, ov] (eval i X.env)
      standAt tpos
      holding [v, ov, iv] (setItem ov iv v)
      release [v, ov, iv] [])) (hs : swapsWithSole [.Subscript o i tpos] a pos.line X.env = pure false) (hw : swappedStores [.Subscript o i tpos] a X.env = pure none) :
    PS X (.Assign [.Subscript o i tpos] a pos) (sSem X.K W fun E ρ S D => wa E ρ S fun v S1 => wo E ρ S1 fun o S2 => wj E ρ S2 fun i S3 => setiW S3 o i v fun S4 => D.nx ρ S4) :=
  (ps_asg ha (pg_sub ho hi (set_okX hu) hf) hs hw rfl).imp fun D σ H ⟨ρ, S, D0, E0, rl, rs, hw, cn, cr, ce⟩ =>
    ⟨ρ, S, _, E0, rl, rs, hw, fun d S1 v H1 q e1 r1 rs1 => ⟨ρ, S1, _, E0, rl.ext e1.tup, rs1, q, fun d2 S2 v2 H2 q2 e2 r2 rs2 => ⟨ρ, S2, _, E0, rl.ext (e1.trans e2).tup, rs2, q2, fun d3 S3 v3 H3 q3 e3 r3 rs3 =>
      ⟨d2, d3, d, S3, _, r2.ext e3.tup, r3, r1.ext (e2.trans e3).tup, rs3, q3, fun S4 H4 q4 e4 rs4 => cn _ _ _ _ q4 (((e1.trans e2).trans e3).trans e4) (rl.ext (((e1.trans e2).trans e3).trans e4).tup) rs4⟩, ce.ext (e1.trans e2)⟩, ce.ext e1⟩, ce⟩
theorem ss_aug {i : Nat} {x : Str} {pos' : Pos} {o : Op2} (hN : X.N.Nodup) (hi : X.N[i]? = some x) (hx : Loc X.env.scope x) (ha : PE X a (tSem X.K W wa)) (ho : match o with | .add | .sub | .mul => True | _ => False) (hf : X.fn x = true ∨ X.env.scope.names.lookup x = some .local) :
    PS X (.AugAssign (.Name x pos') (oper o) a pos) (sSem X.K W fun E ρ S D => getV ρ i fun x => wa E ρ S fun y S1 => opW o x y fun z => D.nx (ρ.set i (some z)) S1) :=
  (ps_aug hN hi hx ha (ip_okX o ho) hf).imp fun D σ H ⟨ρ, S, D0, E0, rl, rs, hw, cn, cr, ce⟩ => by
    obtain ⟨d, h1, hw⟩ := getV_iff hw
    obtain ⟨v, h3, h4⟩ := rl.2 i d h1
    refine ⟨v, h3, ρ, S, _, E0, rl, rs, hw, fun d2 S1 v2 H1 q e1 r1 rs1 => ?_, ce⟩
    refine ⟨d, d2, S1, h4.ext e1.tup, r1, rs1, ?_⟩
    have mono : ∀ (o : Op2) (x y : Fel.D) (A B : Fel.D → Prop), (∀ z, A z → B z) → opW o x y A → opW o x y B := by
      intro o x y A B f h
      cases o <;> cases x <;> cases y <;> first
        | exact h
        | exact f _ h
        | exact ⟨h.1, f _ h.2⟩
    exact mono o d d2 _ _ (fun z hz w rw' => cn _ _ _ _ hz e1 ((rl.ext e1.tup).set rw' i) rs1) q
end
end Fel
end

section
set_option maxHeartbeats 8000000
/-! List comprehensions. -/
namespace Fel
open PySem L2 PySem.Spec PyProof.Rows
section
variable {X : Cx} {W : WX} {wi : WI0} {iter tg elt : Expr} {ifs : List Expr} {bd : D → Rho → (Rho → Prop) → Prop} {sl : List Nat} {scope : Scope} {pos : Pos}
abbrev W00 : WX := fun _ _ _ _ => False
abbrev E00 : XW := fun _ _ _ _ => False
theorem wipe_get (σ : L2.St) (i : Nat) : ∀ vs : List Nat, (L2.wipe σ vs)[i]? = if i ∈ vs ∧ i < σ.length then some none else σ[i]?
  | [] => by simp [L2.wipe]
  | v :: vs => by
    have ih := wipe_get σ i vs
    simp only [L2.wipe]
    by_cases e : v = i
    · subst e
      by_cases hv : v < σ.length
      · rw [List.getElem?_set_self (by rw [L2.wipe_length]; exact hv), if_pos ⟨List.mem_cons_self, hv⟩]
      · rw [List.getElem?_eq_none (by rw [List.length_set, L2.wipe_length]; omega), if_neg (fun z => hv z.2), List.getElem?_eq_none (by omega)]
    · rw [List.getElem?_set_ne e, ih]
      have e' : ¬ i = v := fun z => e z.symm
      simp [List.mem_cons, e']
theorem wipe_eq {σ σ' : L2.St} {vs : List Nat} (hl : σ'.length = (L2.wipe σ vs).length) (h : ∀ i, i ∉ vs → σ'[i]? = (L2.wipe σ vs)[i]?) : L2.wipe σ' vs = L2.wipe σ vs := by
  refine List.ext_getElem? fun i => ?_
  rw [wipe_get]
  rw [L2.wipe_length] at hl
  by_cases hi : i ∈ vs
  · by_cases hb : i < σ'.length
    · rw [if_pos ⟨hi, hb⟩, wipe_get, if_pos ⟨hi, by rw [← hl]; exact hb⟩]
    · rw [if_neg (fun z => hb z.2), wipe_get, if_neg (fun z => hb (by rw [hl]; exact z.2)), List.getElem?_eq_none (by omega), List.getElem?_eq_none (by omega)]
  · rw [if_neg (fun z => hi z.1)]
    exact h i hi
/-- the comprehension's list, while it is being made -/
theorem se_lc {own : List (Str × Nat)} {wt : WB0} {we : WE0} (hc : X.calm = true) (hN : X.N.Nodup) (hi : PI X tg iter (iSem X.K W wi)) (ok : BlkOk X.N X.env.scope scope own)
    (hg : ∀ (s : Shared) (H : Hp) (C : Addr) (cl : List (Str × Addr)) (fp : List Addr), PG (X.blk s H scope (compEnvC scope cl C X.env) fp) tg (gSem X.K sl bd))
    (ht : ∀ (s : Shared) (H : Hp) (C : Addr) (cl : List (Str × Addr)) (fp : List Addr), PTs (X.blk s H scope (compEnvC scope cl C X.env) fp) ifs (tSemB X.K W00 wt))
    (he : ∀ (s : Shared) (H : Hp) (C : Addr) (cl : List (Str × Addr)) (fp : List Addr), PE (X.blk s H scope (compEnvC scope cl C X.env) fp) elt (tSem X.K W00 we))
    (hs : ∀ x, foldedSetIterable iter X.env x = pure x) (hsl : ∀ i ∈ sl, i ∈ own.map (·.2)) :
    ∀ σ H Q, tSemL X.K W (fun E ρ S L => wi E ρ S fun ds still S1 => wLc bd (wt E00) (we E00) still (wipeR ρ (own.map (·.2))) ds S1 [] L) σ H Q →
      tLc (iSem X.K W wi) (gSem X.K sl bd) (tSemB X.K W00 wt) (tSem X.K W00 we) (own.map (·.2)) σ H Q := by
  rintro σ H Q ⟨ρ, S, L0, E0, rl, rs, hw, cl, ce⟩
  refine ⟨ρ, S, _, E0, rl, rs, hw, ce, fun ds still S1 J H1 hq e1 rs1 hlen it D hD => ?_⟩
  have eA : Ext X.K H1 S1 (L2.upd H1 D (.lst [])) S1 := Ext.alloc hD fun a _ e => e
  have S1D : S1 D = none := rs1.none hD
  refine ⟨fun i m H' => m = ds.length - i ∧ i ≤ ds.length ∧ ∃ S' accV accD, H' D = some (.lst accV) ∧ RepVs X.K H' accV accD ∧ RepS X.K H' S' ∧ Ext X.K H1 S1 H' S' ∧ S' D = none ∧ accD.length ≤ i ∧
    wLc bd (wt E00) (we E00) still (wipeR ρ (own.map (·.2))) (ds.drop i) S' accD L0, ⟨ds.length, rfl, Nat.zero_le _, S1, [], [], L2.upd_same, .nil, rs1.alloc0 hD, eA, S1D, Nat.le_refl _, hq⟩, ?_⟩
  rintro i m H' ⟨rfl, hi, S', accV, accD, hHD, rv, rs', eF, S'D, hacc, hw'⟩
  have HDn : H' D ≠ none := by rw [hHD]; exact fun z => nomatch z
  by_cases h : i = ds.length
  · rw [h, List.drop_length] at hw'
    refine .inl ⟨(it i H' S' eF rs' hw'.1 hi).1 h, cl _ _ _ _ _ hw'.2 (e1.trans eF) rv rs' hHD S'D (e1.dom D hD)⟩
  · have hlt : i < ds.length := by omega
    rw [drop_cons (List.getElem?_eq_getElem hlt)] at hw'
    obtain ⟨hst, hw'⟩ := hw'
    obtain ⟨_, i2, i3⟩ := it i H' S' eF rs' hst hi
    refine .inr ⟨i2 hlt, _, fun H2 q => ⟨ds.length - (i + 1), by omega, q⟩, fun x H'' y => ?_⟩
    obtain ⟨d, hd, rd, e2, rs2, fr⟩ := i3 x H'' y hlt
    rw [List.getElem?_eq_getElem hlt] at hd
    cases hd
    have rlw : RepL X.K H'' (L2.wipe σ (own.map (·.2))) (wipeR ρ (own.map (·.2))) := (rl.ext ((e1.trans eF).trans e2).tup).wipe _
    have D2 : H'' D = some (.lst accV) := (fr D HDn).trans hHD
    have D2n : H'' D ≠ none := by rw [D2]; exact fun z => nomatch z
    have rv2 := rv.ext e2.tup
    refine ⟨_, _, _, rd, rlw, hw', fun ρ1 σ1 hk rl1 hl1 hn1 => ⟨wipe_eq hl1 fun j hj => hn1 j fun z => hj (hsl j z), ρ1, S', _, E00, rl1, rs2, hk, fun b S3 H3 q e3 rs3 => ?_, fun _ _ _ _ _ _ _ z => z.elim⟩⟩
    have D3 : H3 D = some (.lst accV) := (e3.frm D D2n S'D).trans D2
    have S3D : S3 D = none := e3.new D D2n S'D
    have D3n : H3 D ≠ none := by rw [D3]; exact fun z => nomatch z
    dsimp only at q ⊢
    split at q
    · rename_i hb; rw [if_pos hb]
      refine ⟨ρ1, S3, _, E00, rl1.ext e3.tup, rs3, q, fun y S4 v H4 q4 e4 r4 rs4 => ?_, fun _ _ _ _ _ _ _ z => z.elim⟩
      have D4 : H4 D = some (.lst accV) := (e4.frm D D3n S3D).trans D3
      have S4D : S4 D = none := e4.new D D3n S3D
      have hm : Mut (some (HO.lst accV)) := True.intro
      have rv4 := rv2.ext (e3.trans e4).tup
      have E := ((eF.trans e2).trans e3).trans e4
      refine ⟨accV, D4, by rw [rv.length]; omega, rfl, hlt, S4, accV ++ [v], accD ++ [y], L2.upd_same, (rv4.append (.cons r4 .nil)).ext (sqT_write D4 hm), fun a o ho => ?_, ⟨E.tup.trans (sqT_write D4 hm), fun a q => ?_, E.new, fun a h1 h2 => ?_⟩, S4D, by rw [List.length_append, List.length_singleton]; omega, q4⟩
      · have ne : a ≠ D := fun z => by rw [z, S4D] at ho; cases ho
        exact (rs4 a o ho).ext (sqT_write D4 hm) (L2.upd_ne ne)
      · by_cases z : a = D
        · subst z; rw [L2.upd_same] at q; cases q
        · rw [L2.upd_ne z] at q; exact E.dom a q
      · rw [L2.upd_ne fun z => h1 (by rw [z]; exact hD)]
        exact E.frm a h1 h2
    · rename_i hb; rw [if_neg hb]
      exact ⟨rfl, hlt, S3, accV, accD, D3, rv2.ext e3.tup, rs3, (eF.trans e2).trans e3, S3D, by omega, q⟩
end
end Fel
end

section
set_option maxHeartbeats 8000000
/-! A body of the program's text is this body of the small language: a check, and what it gives. -/
namespace Fel
open PySem L2 PySem.Spec PyProof.Rows

def bindW (b : Bt) : Str := match b with
  | .abs => "abs" | .int => "int" | .len => "len" | .list => "list" | .tuple => "tuple" | .sum => "sum" | .all => "all" | .any => "any" | .sorted => "sorted" | .max2 => "max" | .min2 => "min" | .str => "str" | .maxl => "max"
def bindL (b : BtL) : Str := match b with
  | .sum => "sum" | .all => "all" | .any => "any" | .tuple => "tuple" | .sorted => "sorted" | .len => "len" | .max => "max"
def bmN (m : Bm) : Str := match m with
  | .append => "append" | .extend => "extend" | .pop => "pop"
/-- the built-in names that the program does not bind -/
def btNames : List Str := ["abs", "int", "len", "list", "tuple", "sum", "all", "any", "sorted", "max", "min", "str", "range", "zip", "enumerate", "reversed", "isinstance", "bool", "dict", "set"]

def visB (sc : Scope) (x : Str) : Bool := match sc.names.lookup x with
  | some .local => true | some .cell => true | some .free => true | _ => false
def locB (sc : Scope) (top : Bool) (x : Str) : Bool := match sc.names.lookup x with
  | some .local => true | some .cell => top | _ => false
def glB (sc : Scope) (x : Str) : Bool := match sc.names.lookup x with
  | some .globalImplicit => true | _ => false
def okN (x : Str) : Bool := !(x == ("__debug__" : Str)) && !(x == ("__classdict__" : Str))
def isBO : Expr → Bool
  | .BoolOp .. => true | _ => false
/-- may stand as a test -/
def tst : Ex → Bool
  | .and a b => tst a && tst b
  | .or a b => tst a && tst b
  | .one a => tst a
  | .not a => tst a
  | .chain .. => false
  | .ife .. => false
  | _ => true
mutual
def tgSl : Tg → List Nat
  | .name i => [i]
  | .tup ts => tgSls ts
def tgSls : Tgs → List Nat
  | .nil => []
  | .cons t ts => tgSl t ++ tgSls ts
end
def exsN : Exs → Nat
  | .nil => 0
  | .cons _ es => exsN es + 1
def tgsN : Tgs → Nat
  | .nil => 0
  | .cons _ es => tgsN es + 1

def isiNames : List String := ["int", "str", "bool", "tuple", "list", "dict"]
/-- not f() -/
def noCall0 : Expr → Bool
  | .Call (.Name _ _) [] [] _ => false
  | _ => true
/-- arguments or none -/
def bmE (m : Bm) (es : List Expr) : Bool := match m with
  | .pop => es.isEmpty
  | _ => !es.isEmpty
/-- forms that the check lets by -/
def plainE : Expr → Bool
  | .Starred .. => false | .Slice .. => false | .Set .. => false | .SetComp .. => false | .DictComp .. => false | .GeneratorExp .. => false | .NamedExpr .. => false | _ => true
section
variable (N : List Str)
def ownP (own : List Nat) : List (Str × Nat) := own.map fun i => (N.getD i "", i)
mutual
def chkT : Tg → Scope → Bool → Expr → Bool
  | .name i, sc, top, e => match e with
    | .Name x _ => decide (N[i]? = some x) && locB sc top x
    | _ => false
  | .tup ts, sc, top, e => match e with
    | .Tuple es _ _ => chkTs ts sc top es
    | _ => false
def chkTs : Tgs → Scope → Bool → List Expr → Bool
  | .nil, _, _, es => match es with
    | [] => true
    | _ => false
  | .cons t ts, sc, top, es => match es with
    | e :: r => chkT t sc top e && chkTs ts sc top r
    | [] => false
end
def isTupE : Expr → Bool
  | .Tuple .. => true | _ => false
mutual
def chkE : Ex → Scope → Expr → Bool
  | .var i, sc, e => match e with
    | .Name x _ => decide (N[i]? = some x) && visB sc x && okN x
    | _ => false
  | .con d, _, e => match e with
    | .Constant c _ _ => match c with
      | .int j => decide (d = .int j)
      | .str j => decide (d = .str j)
      | .bool j => decide (d = .bl j)
      | .none => decide (d = .non)
      | _ => false
    | _ => false
  | .glo x, sc, e => match e with
    | .Name y _ => decide (x = y) && glB sc x && okN x
    | _ => false
  | .op o a b, sc, e => match e with
    | .BinOp l o' r _ => decide (o' = oper o) && chkE a sc l && chkE b sc r
    | _ => false
  | .neg a, sc, e => match e with
    | .UnaryOp .USub x _ => chkE a sc x
    | _ => false
  | .cmp c a b, sc, e => match e with
    | .Compare l [o] [r] _ => decide (o = cmOp c) && chkE a sc l && chkE b sc r
    | _ => false
  | .chain c d a b z, sc, e => false
  | .and a b, sc, e => match e with
    | .BoolOp .And (x :: y :: r) pos => chkE a sc x && chkE b sc (.BoolOp .And (y :: r) pos)
    | _ => false
  | .or a b, sc, e => match e with
    | .BoolOp .Or (x :: y :: r) pos => chkE a sc x && chkE b sc (.BoolOp .Or (y :: r) pos)
    | _ => false
  | .one a, sc, e => match e with
    | .BoolOp _ [x] _ => chkE a sc x
    | _ => false
  | .not a, sc, e => match e with
    | .UnaryOp .Not x _ => chkE a sc x
    | _ => false
  | .ife c a b, sc, e => match e with
    | .IfExp t x y _ => tst c && chkE c sc t && chkE a sc x && chkE b sc y
    | _ => false
  | .tup es, sc, e => match e with
    | .Tuple l _ _ => decide (exsN es ≤ 1000) && chkEs es sc l
    | _ => false
  | .lst es, sc, e => match e with
    | .List l _ => decide (exsN es ≤ 1000) && chkEs es sc l
    | _ => false
  | .dnew, _, e => match e with
    | .Dict [] [] _ => true
    | _ => false
  | .idx a b, sc, e => match e with
    | .Subscript o i _ => chkE a sc o && chkE b sc i
    | _ => false
  | .slc a lo hi, sc, e => match e with
    | .Subscript o (.Slice l h none _) _ => chkE a sc o && chkO lo sc l && chkO hi sc h
    | _ => false
  | .rev a, sc, e => match e with
    | .Subscript o (.Slice none none (some (.UnaryOp .USub (.Constant (.int j) _ _) _)) _) _ => decide (j = 1) && chkE a sc o
    | _ => false
  | .call f es, sc, e => match e with
    | .Call (.Name x _) l [] _ => decide (f = x) && glB sc x && okN x && chkEs es sc l
    | _ => false
  | .bt b es, sc, e => match e with
    | .Call (.Name x _) (a :: l) [] _ => decide (x = bindW b) && glB sc x && chkEs es sc (a :: l)
    | _ => false
  | .bm m o es, sc, e => match e with
    | .Call (.Attribute ob nm apos) l [] cpos => decide (nm = bmN m) && bmE m l && noCall0 ob && (apos.endLine == cpos.line) && decide (exsN es < 20) && chkE o sc ob && chkEs es sc l
    | _ => false
  | .isi a T, sc, e => match e with
    | .Call (.Name x _) [y, .Name t _] [] _ => decide (x = ("isinstance" : Str)) && decide (t = (T : Str)) && decide (T ∈ isiNames) && glB sc x && glB sc t && chkE a sc y
    | _ => false
  | .isx i xs, sc, e => false
  | .join s a, sc, e => match e with
    | .Call (.Attribute (.Constant (.str j) _ _) nm apos) [y] [] cpos => decide (nm = ("join" : Str)) && decide (j = s) && (apos.endLine == cpos.line) && chkE a sc y
    | _ => false
  | .lc elt tg it ifs own, sc, e => match e with
    | .ListComp el [⟨t, i, fs, k⟩] scope _ => decide (k = 0) && blkC N sc scope (ownP N own) && (tgSl tg).all (fun i => decide (i ∈ own)) && chkI it sc (isTupE t) i && chkT N tg (relS scope sc) false t && chkF ifs (relS scope sc) fs && chkE elt (relS scope sc) el
    | _ => false
  | .btl b elt tg it ifs own, sc, e => match e with
    | .Call (.Name x _) [.ListComp el [⟨t, i, fs, k⟩] scope _] [] _ => decide (x = bindL b) && glB sc x && decide (k = 0) && blkC N sc scope (ownP N own) && (tgSl tg).all (fun i => decide (i ∈ own)) && chkI it sc (isTupE t) i && chkT N tg (relS scope sc) false t && chkF ifs (relS scope sc) fs && chkE elt (relS scope sc) el
    | _ => false
def chkEs : Exs → Scope → List Expr → Bool
  | .nil, _, l => match l with
    | [] => true
    | _ => false
  | .cons e es, sc, l => match l with
    | x :: r => chkE e sc x && chkEs es sc r
    | [] => false
def chkO : EO → Scope → Option Expr → Bool
  | .none, _, l => match l with
    | none => true
    | _ => false
  | .some e, sc, l => match l with
    | some x => chkE e sc x
    | none => false
def chkF : EO → Scope → List Expr → Bool
  | .none, _, l => match l with
    | [] => true
    | _ => false
  | .some e, sc, l => match l with
    | [x] => tst e && chkE e sc x
    | _ => false
def chkI : It' → Scope → Bool → Expr → Bool
  | .seq a, sc, _, e => chkE a sc e
  | .rng a, sc, _, e => match e with
    | .Call (.Name x _) [y] [] _ => decide (x = ("range" : Str)) && glB sc x && chkE a sc y
    | _ => false
  | .rng2 a b, sc, _, e => match e with
    | .Call (.Name x _) [y, z] [] _ => decide (x = ("range" : Str)) && glB sc x && chkE a sc y && chkE b sc z
    | _ => false
  | .enm a, sc, tp, e => match e with
    | .Call (.Name x _) [y] [] _ => tp && decide (x = ("enumerate" : Str)) && glB sc x && chkE a sc y
    | _ => false
  | .zip a b, sc, tp, e => match e with
    | .Call (.Name x _) [y, z] [] _ => tp && decide (x = ("zip" : Str)) && glB sc x && chkE a sc y && chkE b sc z
    | _ => false
  | .rev a, sc, _, e => match e with
    | .Call (.Name x _) [y] [] _ => decide (x = ("reversed" : Str)) && glB sc x && chkE a sc y
    | _ => false
  | .revr a, sc, _, e => match e with
    | .Call (.Name x _) [.Call (.Name z _) [y] [] _] [] _ => decide (x = ("reversed" : Str)) && glB sc x && decide (z = ("range" : Str)) && glB sc z && chkE a sc y
    | _ => false
end
/-- a list comprehension's scope, where it is one -/
def lcScope : Expr → Option (Scope × Pos)
  | .ListComp _ _ s p => some (s, p)
  | _ => none
/-- the stores of a comprehension go as any other's, or by the other road -/
def lcPlain (sc : Scope) (y : Str) (p : Pos) (v : Expr) : Bool := match lcScope v with
  | some (s, q) => !(decide (sc.names.lookup y = some .local) && (p.line == q.line) && !(s.names.any fun (n, k) => n == y && (k == .local || k == .cell)))
  | none => true
def nameE : Expr → Option Str
  | .Name x _ => some x
  | _ => none
/-- the classes that an isinstance asks of -/
def clsE : Expr → List Str → Bool
  | .Name x _, [y] => decide (x = y)
  | _, _ => false
mutual
def chkHE : Ex → Scope → Expr → Bool
  | .con d, sc, e => chkE N (.con d) sc e
  | .var i, sc, e => chkE N (.var i) sc e
  | .lst es, sc, e => match e with
    | .List l _ => decide (exsN es ≤ 1000) && chkHEs es sc l
    | _ => false
  | .isx i xs, sc, e => match e with
    | .Call (.Name x _) [.Name y _, .Name t _] [] _ => decide (x = ("isinstance" : Str)) && glB sc x && decide (N[i]? = some y) && visB sc y && okN y && decide (xs = [t]) && glB sc t && okN t
    | .Call (.Name x _) [.Name y _, .Tuple l _ _] [] _ => decide (x = ("isinstance" : Str)) && glB sc x && decide (N[i]? = some y) && visB sc y && okN y && decide (l.map nameE = xs.map some) && xs.all (fun t => glB sc t && okN t) && decide (xs.length ≤ 1000)
    | _ => false
  | .bm m o es, sc, e => match e with
    | .Call (.Attribute ob nm apos) l [] cpos => decide (nm = bmN m) && bmE m l && noCall0 ob && (apos.endLine == cpos.line) && decide (exsN es < 20) && chkHE o sc ob && chkHEs es sc l
    | _ => false
  | _, _, _ => false
def chkHEs : Exs → Scope → List Expr → Bool
  | .nil, _, l => match l with
    | [] => true
    | _ => false
  | .cons e es, sc, l => match l with
    | x :: r => chkHE e sc x && chkHEs es sc r
    | [] => false
end
def chkHs : List Hx → Scope → List Stmt → Bool
  | [], _, l => l.isEmpty
  | .set i e :: r, sc, l => match l with
    | .Assign [.Name y _] v _ :: l' => decide (N[i]? = some y) && locB sc true y && (lcScope v).isNone && chkHE N e sc v && chkHs r sc l'
    | _ => false
  | .ex e :: r, sc, l => match l with
    | .Expr v _ :: l' => (lcScope v).isNone && chkHE N e sc v && chkHs r sc l'
    | _ => false
  | .ret e :: r, sc, l => match l with
    | .Return (some v) _ :: l' => chkHE N e sc v && chkHs r sc l'
    | _ => false
mutual
def chkS : Sx → Scope → Stmt → Bool
  | .set tg e, sc, st => match st with
    | .Assign [t] v _ => chkT N tg sc true t && chkE N e sc v && (match t with
      | .Name y p => true
      | _ => (lcScope v).isNone && !(isTupE v))
    | _ => false
  | .seti o i e, sc, st => match st with
    | .Assign [.Subscript ob ix _] v _ => (lcScope v).isNone && chkE N e sc v && chkE N o sc ob && chkE N i sc ix
    | _ => false
  | .aug i o e, sc, st => match st with
    | .AugAssign (.Name x _) o' v _ => decide (N[i]? = some x) && locB sc true x && decide (o' = oper o) && (match o with | .add | .sub | .mul => true | _ => false) && chkE N e sc v
    | _ => false
  | .ex e, sc, st => match st with
    | .Expr v _ => (lcScope v).isNone && chkE N e sc v
    | _ => false
  | .ret e, sc, st => match st with
    | .Return (some v) _ => chkE N e sc v
    | _ => false
  | .retN, _, st => match st with
    | .Return none _ => true
    | _ => false
  | .iff c a b, sc, st => match st with
    | .If t x y _ => tst c && chkE N c sc t && chkSs a sc x && chkSs b sc y
    | _ => false
  | .whl c b, sc, st => match st with
    | .While t x [] _ => tst c && chkE N c sc t && chkSs b sc x
    | _ => false
  | .for_ tg it b, sc, st => match st with
    | .For t i x [] _ => chkT N tg sc true t && chkI N it sc (isTupE t) i && chkSs b sc x
    | _ => false
  | .pass, _, st => match st with
    | .Pass _ => true
    | _ => false
  | .dead, _, _ => true
  | .raise x, sc, st => match st with
    | .Raise (some (.Call (.Name y _) [.Constant (.str _) _ _] [] _)) none _ => decide (x = y) && glB sc x && okN x
    | _ => false
  | .tryAs b x i h, sc, st => match st with
    | .Try body [.ExceptHandler (some (.Name y _)) (some n) (s0 :: suite) _] [] [] _ => decide (x = y) && glB sc x && okN x && decide (N[i]? = some n) && decide (sc.names.lookup n = some .local) && chkSs b sc body && chkHs N h sc (s0 :: suite)
    | _ => false
def chkSs : Sxs → Scope → List Stmt → Bool
  | .nil, _, l => match l with
    | [] => true
    | _ => false
  | .cons s ss, sc, l => match l with
    | x :: r => chkS s sc x && chkSs ss sc r
    | [] => false
end
end

/-! ### what is around -/
def bmX : List Value := [.type "ValueError", .type "Exception", .type "BaseException", .type "object"]
/-- own errors -/
structure XF (K : PySem.W.Frag) (mg : Str → Option Value) (C : Env') : Prop where
  ec : ∀ x c, C.ex x = some c → mg x = some (.ref c) ∧ PySem.W.excIn K c bmX "ValueError.__new__" = true ∧ PySem.W.keepIn K (.ref c) = true ∧ PySem.W.subIn K (.ref c) (.type "BaseException") = some true ∧ PySem.W.typeIn K (.ref c) = some (.type "type")
  is : ∀ c x b, C.sub c x = some b → ExcC K c ∧ ∃ v u, ClsV v u ∧ (mg x = some u ∨ (mg x = none ∧ bootBuiltins x = some u ∧ x ≠ "__name__")) ∧ PySem.W.kitOne K (.ref c) u = some b ∧ PySem.W.exmOne K (.ref c) u = some b
structure OkX (C : Env') (W : WX) (X : Cx) (sc : Scope) (N : List Str) (top : Bool) : Prop where
  nd : N.Nodup
  kd : sc.kind = .function
  eN : X.N = N
  eS : X.env.scope = sc
  calm : X.calm = true
  un : X.A.units + 200 < cLine
  tk : Takes X W
  po : PassesOwn (model X.prog X.w) X.A X.env X.xe
  fnt : top = true → ∀ x, X.fn x = true
  tp : top = true → X.stack = X.env :: X.outer ∧ X.env.frame = some X.env.locals
  fn : ∀ x sp, C.fn x = some sp → ∃ f fd ps k, FnOk X.prog X.w X.K X.mg X.base (L2.CX X.prog X.w) k f fd ps (lift X.K sp) ∧ Room k X.A ∧ X.mg x = some (.ref f) ∧ PySem.W.keepIn X.K (.ref f) = true ∧ Binds X.K fd ps []
  gl : ∀ x d, C.gl x = some d → ∃ v u, X.mg x = some u ∧ RelV v u ∧ ∀ H, RepV X.K H v d
  bt : ∀ x, x ∈ btNames → X.mg x = none
  xf : XF X.K X.mg C

theorem visB_ok {sc : Scope} {x : Str} (h : visB sc x = true) : Vis sc x := by
  unfold visB at h
  split at h <;> first | exact .inl (by assumption) | exact .inr (.inl (by assumption)) | exact .inr (.inr (by assumption)) | cases h
theorem locB_ok {sc : Scope} {x : Str} {top : Bool} (h : locB sc top x = true) : Loc sc x ∧ (sc.names.lookup x = some .local ∨ top = true) := by
  unfold locB at h
  split at h <;> first | exact ⟨.inl (by assumption), .inl (by assumption)⟩ | exact ⟨.inr (by assumption), .inr h⟩ | cases h
theorem glB_ok {X : Cx} {sc : Scope} {x : Str} (e : X.env.scope = sc) (h : glB sc x = true) : Gl X x := by
  unfold glB at h
  split at h
  · unfold Gl Env.kindOf; rw [e]; assumption
  · cases h
theorem okN_ok {x : Str} (h : okN x = true) : (x == ("__debug__" : Str)) = false ∧ (x == ("__classdict__" : Str)) = false := by
  unfold okN at h
  simp only [Bool.and_eq_true, Bool.not_eq_true'] at h
  exact h
theorem btn_ok {x : Str} (h : x ∈ btNames) : x ≠ "__name__" ∧ (x == ("__debug__" : Str)) = false := by
  have : btNames.all (fun x => decide (x ≠ ("__name__" : Str)) && !(x == ("__debug__" : Str))) = true := by decide +kernel
  have q := List.all_eq_true.mp this x h
  simp only [Bool.and_eq_true, decide_eq_true_eq, Bool.not_eq_true'] at q
  exact q
theorem bindW_mem (b : Bt) : bindW b ∈ btNames := by cases b <;> decide +kernel
theorem bindL_mem (b : BtL) : bindL b ∈ btNames := by cases b <;> decide +kernel
theorem boot_bt (b : Bt) : bootBuiltins (bindW b) = some (btV b) := by cases b <;> decide +kernel
theorem boot_btl (b : BtL) : bootBuiltins (bindL b) = some (btlV b) := by cases b <;> decide +kernel
theorem btV_k (b : Bt) : ∃ id, btV b = .builtin id ∨ btV b = .type id := by cases b <;> first | exact ⟨_, .inl rfl⟩ | exact ⟨_, .inr rfl⟩
theorem btlV_k (b : BtL) : ∃ id, btlV b = .builtin id ∨ btlV b = .type id := by cases b <;> first | exact ⟨_, .inl rfl⟩ | exact ⟨_, .inr rfl⟩

theorem plain_of_chk {N : List Str} {sc : Scope} {ir : Ex} {e : Expr} (h : chkE N ir sc e = true) : plainE e = true := by
  cases ir <;> (unfold chkE at h; first | cases h | (split at h <;> first | rfl | cases h))
theorem star_of {e : Expr} (h : plainE e = true) (es : List Expr) (env : Env) : starEach (e :: es) env = (false, eval e env) :: starEach es env := by
  cases e <;> first | rfl | cases h
theorem swap_of {e : Expr} (h : plainE e = true) (h2 : lcScope e = none) (t : Option Expr) (l : Nat) (env : Env) : swapsWith e t l env = pure false := by
  cases e <;> first | rfl | (cases h; done) | (simp [lcScope] at h2; done)
theorem nosl_of {e : Expr} (h : plainE e = true) : PlainIx e := by
  intro o i
  cases e <;> first | rfl | cases h
theorem noset_of {e : Expr} (h : plainE e = true) (env : Env) (x : Value) : foldedSetIterable e env x = pure x := by
  cases e <;> first | rfl | cases h
theorem nomark_of {e : Expr} (h : plainE e = true) (o : CmpOp) : behindInMarks o e = false := by
  cases e <;> first | rfl | cases h
def nsp : Expr → Bool
  | .UnaryOp .Not .. => false
  | .BoolOp .. => false
  | .IfExp .. => false
  | .Compare .. => false
  | _ => true
theorem isTrue_of {e : Expr} (h : nsp e = true) (env : Env) (whole : Sem Value) : isTrue e env whole = (do let v ← whole; standAt e.pos; holding [v] (truthy v)) := by
  cases e with
  | UnaryOp o x p => cases o <;> first | rfl | (cases h; done)
  | BoolOp => cases h
  | IfExp => cases h
  | Compare => cases h
  | _ => rfl
theorem plains_star {es : List Expr} (h : ∀ e ∈ es, plainE e = true) (env : Env) (pos : Pos) : (backTo pos (starEach es env)).any (·.1) = false := by
  induction es with
  | nil => rfl
  | cons e es ih =>
    rw [star_of (h e List.mem_cons_self)]
    have := ih fun x hx => h x (List.mem_cons_of_mem _ hx)
    show (false || (backTo pos (starEach es env)).any (·.1)) = false
    rw [this]; rfl
theorem plains_of_chk {N : List Str} {sc : Scope} : ∀ {irs : Exs} {es : List Expr}, chkEs N irs sc es = true → (∀ e ∈ es, plainE e = true) ∧ es.length = exsN irs
  | .nil, [], _ => ⟨fun _ h => (nomatch h), rfl⟩
  | .nil, _ :: _, h => by simp [chkEs] at h
  | .cons a r, [], h => by simp [chkEs] at h
  | .cons a r, e :: es, h => by
    simp only [chkEs, Bool.and_eq_true] at h
    obtain ⟨h1, h2⟩ := plains_of_chk h.2
    refine And.intro (fun x hx => ?_) (by simp [exsN, h2])
    rcases List.mem_cons.mp hx with rfl | hx
    · exact plain_of_chk h.1
    · exact h1 x hx
theorem base_of {o : Expr} {nm : Str} {env : Env} (h : noCall0 o = true) (w : Sem Value) : attributeBase o nm env w = w := by
  cases o with
  | Call f a k p =>
    cases f with
    | Name x q =>
      cases a with
      | nil =>
        cases k with
        | nil => cases h
        | cons _ _ => rfl
      | cons _ _ => rfl
    | _ => rfl
  | _ => rfl
end Fel
end

section
set_option maxHeartbeats 8000000
/-! The check is sound. -/
namespace Fel
open PySem L2 PySem.Spec PyProof.Rows

structure OkE (C : Env') (W : WX) (X : Cx) (ir : Ex) (e : Expr) : Prop where
  pe : PE X e (tSem X.K W fun E ρ S Q => wpE C E ir ρ S Q)
  pt : tst ir = true → PT X e (tSemB X.K W fun E ρ S Q => wpB C E ir ρ S Q)
  pw : tst ir = true → isBO e = true → PW X e (tSemB X.K W fun E ρ S Q => wpB C E ir ρ S Q)
section
variable {C : Env'} {W : WX} {X : Cx} {sc : Scope} {N : List Str} {top : Bool}
theorem isBO_nsp {e : Expr} (h : nsp e = true) : isBO e = false := by cases e <;> first | rfl | cases h
theorem OkE.atom {ir : Ex} {e : Expr} (h : PE X e (tSem X.K W fun E ρ S Q => wpE C E ir ρ S Q)) (hp : nsp e = true) : OkE C W X ir e :=
  ⟨h, fun _ => sb_val h (isTrue_of hp X.env), fun _ z => by rw [isBO_nsp hp] at z; cases z⟩
theorem OkX.hu (o : OkX C W X sc N top) : X.A.units + 190 < cLine := by have := o.un; omega
theorem OkX.hu5 (o : OkX C W X sc N top) : X.A.units + 195 < cLine := by have := o.un; omega
theorem OkX.hu1 (o : OkX C W X sc N top) : X.A.units + 1 < cLine := by have := o.un; omega
theorem okCon {d : D} {c : Const} {k : Nat} {pos : Pos} (h : (match c with
      | .int j => decide (d = .int j)
      | .str j => decide (d = .str j)
      | .bool j => decide (d = .bl j)
      | .none => decide (d = .non)
      | _ => false) = true) : PE X (.Constant c k pos) (tSem X.K W fun _ ρ S Q => Q d S) := by
  split at h
  · rw [of_decide_eq_true h]; exact se_con pe_int fun H => .int _
  · rw [of_decide_eq_true h]; exact se_con pe_str fun H => .str _
  · rw [of_decide_eq_true h]; exact se_con pe_bl fun H => .bl _
  · rw [of_decide_eq_true h]; exact se_con pe_non fun H => .non
  · cases h
/-- the check of a block's own names -/
theorem ownP_snd (own : List Nat) : (ownP N own).map (·.2) = own := by unfold ownP; rw [List.map_map]; exact List.map_id own
/-- in a comprehension's block -/
theorem OkX.blk (o : OkX C W X sc N top) (scope : Scope) (hk : scope.kind = .function) (s : Shared) (H : Hp) (Ca : Addr) (cl : List (Str × Addr)) (fp : List Addr) :
    OkX C W00 (X.blk s H scope (compEnvC scope cl Ca X.env) fp) (relS scope sc) N false where
  nd := o.nd
  kd := hk
  eN := o.eN
  eS := by rw [← o.eS]; rfl
  calm := o.calm
  un := o.un
  tk := takes0
  po := PassesOwn.never
  fnt := fun z => by cases z
  tp := fun z => by cases z
  fn := o.fn
  gl := o.gl
  bt := o.bt
  xf := o.xf

/-! targets -/
theorem assignEach_of : ∀ {ts : Tgs} {sc : Scope} {tp : Bool} {es : List Expr}, chkTs N ts sc tp es = true → ∀ env : Env, (assignEach es env).length = tgsN ts ∧ (assignEach es env).findIdx? (·.1) = none ∧ ∀ e ∈ es, ∀ r, assignEach (e :: r) env = (false, assign e env) :: assignEach r env
  | .nil, sc, tp, [], _, env => ⟨rfl, rfl, fun _ h => (nomatch h)⟩
  | .nil, sc, tp, _ :: _, h, env => by simp [chkTs] at h
  | .cons t ts, sc, tp, [], h, env => by simp [chkTs] at h
  | .cons t ts, sc, tp, e :: r, h, env => by
    simp only [chkTs, Bool.and_eq_true] at h
    obtain ⟨h1, h2, h3⟩ := assignEach_of h.2 env
    have he : ∀ r, assignEach (e :: r) env = (false, assign e env) :: assignEach r env := by
      intro r
      have q := h.1
      cases t <;> (unfold chkT at q; split at q <;> first | rfl | cases q)
    refine ⟨by rw [he]; simp [tgsN, h1], by rw [he, List.findIdx?_cons]; simp [h2], fun x hx r' => ?_⟩
    rcases List.mem_cons.mp hx with rfl | hx
    · exact he r'
    · exact h3 x hx r'
mutual
theorem bindT_ex : ∀ {t : Tg} {d : D} {ρ : Rho} {k : Rho → Prop}, bindT t d ρ k → ∃ ρ', k ρ'
  | .name i, d, ρ, k, h => ⟨_, h⟩
  | .tup ts, d, ρ, k, h => by
    cases d with
    | tup ds => exact bindTs_ex (ts := ts) h
    | _ => exact h.elim
theorem bindTs_ex : ∀ {ts : Tgs} {ds : List D} {ρ : Rho} {k : Rho → Prop}, bindTs ts ds ρ k → ∃ ρ', k ρ'
  | .nil, ds, ρ, k, h => ⟨ρ, h.2⟩
  | .cons t ts, [], ρ, k, h => h.elim
  | .cons t ts, d :: r, ρ, k, h => by
    obtain ⟨ρ1, h1⟩ := bindT_ex (t := t) h
    exact bindTs_ex (ts := ts) h1
end
theorem bindTs_len : ∀ {ts : Tgs} {ds : List D} {ρ : Rho} {k : Rho → Prop}, bindTs ts ds ρ k → ds.length = tgsN ts
  | .nil, ds, ρ, k, h => by rw [h.1]; rfl
  | .cons t ts, [], ρ, k, h => h.elim
  | .cons t ts, d :: r, ρ, k, h => by
    obtain ⟨ρ1, h1⟩ := bindT_ex (t := t) h
    have := bindTs_len (ts := ts) h1
    simp [tgsN, this]
mutual
theorem okT : ∀ {t : Tg} {e : Expr}, OkX C W X sc N top → chkT N t sc top e = true → PG X e (gSem X.K (tgSl t) (bindT t))
  | .name i, e, o, h => by
    unfold chkT at h
    split at h
    · rename_i x pos
      simp only [Bool.and_eq_true, decide_eq_true_eq] at h
      obtain ⟨h1, h2⟩ := locB_ok h.2
      refine sg_name (by rw [o.eN]; exact o.nd) (by rw [o.eN]; exact h.1) (by rw [o.eS]; exact h1) ?_
      rcases h2 with h2 | h2
      · exact .inr (by rw [o.eS]; exact h2)
      · exact .inl (o.fnt h2 x)
    · cases h
  | .tup ts, e, o, h => by
    unfold chkT at h
    split at h
    · rename_i es k pos
      obtain ⟨h1, h2, h3⟩ := assignEach_of h X.env
      exact sg_tup o.calm (okTs o h) h1 h2 fun ds ρ k hb => bindTs_len hb
    · cases h
theorem okTs : ∀ {ts : Tgs} {es : List Expr}, OkX C W X sc N top → chkTs N ts sc top es = true → PGs X es (gSems X.K (tgSls ts) (bindTs ts))
  | .nil, [], o, h => sgs_nil
  | .nil, _ :: _, o, h => by simp [chkTs] at h
  | .cons t ts, [], o, h => by simp [chkTs] at h
  | .cons t ts, e :: r, o, h => by
    have h' := h
    simp only [chkTs, Bool.and_eq_true] at h
    obtain ⟨h1, h2, h3⟩ := assignEach_of h' X.env
    exact sgs_cons (okT o h.1) (okTs o h.2) (by rw [h3 e List.mem_cons_self r]; rfl)
end
end
end Fel
end

section
set_option maxHeartbeats 8000000
/-! The check is sound: expressions. -/
namespace Fel
open PySem L2 PySem.Spec PyProof.Rows
section
variable {C : Env'} {N : List Str}
theorem OkX.mgB {W : WX} {X : Cx} {sc : Scope} {top : Bool} (o : OkX C W X sc N top) {x : Str} (h : x ∈ btNames) : X.mg x = none := o.bt x h
theorem pe_absurd {W : WX} {X : Cx} {e : Expr} {w : WE0} (h : ∀ E ρ S Q, ¬ w E ρ S Q) : PE X e (tSem X.K W w) := ⟨fun _ _ _ _ _ _ ⟨ρ, S, Q0, E0, _, _, hw, _⟩ => (h _ _ _ _ hw).elim⟩
theorem few_of {env : Env} {es : List Expr} {pos : Pos} (h : ∀ e ∈ es, plainE e = true) (hl : es.length < 20) : ((backTo pos (starEach es env)).all (fun x => !x.1) && (backToKw pos (keywordEach [] env)).all (fun x => x.1.isSome)
      && decide (es.length + ([] : List Keyword).length + (if ([] : List Keyword).isEmpty then 0 else 1) < 30)) = true := by
  have h1 : (backTo pos (starEach es env)).all (fun x => !x.1) = true := by
    have q := plains_star h env pos
    rw [List.any_eq_false] at q
    rw [List.all_eq_true]
    intro x hx
    have := q x hx
    simpa using this
  rw [h1]
  simp [backToKw, keywordEach]
  omega
theorem onL_ty {K : PySem.W.Frag} {H : Hp} {S : Store} {x : D} {v : V} {k : List D → Prop} (rs : RepS K H S) (r : RepV K H v x) (h : onL S x k) : tyV K "list" v H := by
  obtain ⟨a, ds, rfl, hS, _⟩ := onLE h
  obtain ⟨xs, h1, _⟩ := rs.lst hS
  rw [r.refE]
  exact Or.inl ⟨rfl, _, Or.inl (Or.inl h1)⟩
/-- methods of lists -/
theorem se_bm {W : WX} {X : Cx} (m : Bm) {ob : Expr} {es : List Expr} {apos cpos : Pos} {wo : WE0} {wr : WA0} {n : Nat} (ho : PE X ob (tSem X.K W wo)) (ha : PA X es (tSemA X.K W n wr)) (hn : es.length = n) (hp : ∀ e ∈ es, plainE e = true) (hb : noCall0 ob = true) (hl : (apos.endLine == cpos.line) = true) (h20 : n < 20)
    (hN : bmE m es = true) (h0 : es = [] → ∀ E ρ S Q, wr E ρ S Q → Q [] S) :
    PE X (.Call (.Attribute ob (bmN m) apos) es [] cpos) (tSem X.K W fun E ρ S Q => wo E ρ S fun x S1 => bmTy m S1 x ∧ wr E ρ S1 fun ds S2 => bmW m x ds S2 Q) := by
  cases m with
  | append =>
    cases es with
    | nil => cases hN
    | cons a l =>
      refine (pe_bm PySem.F.plainAttrs_list PySem.F.slot_list_append PySem.F.type_list_append mt_append ho ha (base_of hb _) (few_of hp (by rw [hn]; exact h20)) hl (star_of (hp a List.mem_cons_self) _ _) (plains_star (fun e he => hp e (List.mem_cons_of_mem _ he)) _ _)).imp fun σ H Q ⟨ρ, S, Q0, E0, rl, rs, hw, cl, ce⟩ => ?_
      refine ⟨ρ, S, _, E0, rl, rs, hw, fun d S1 v H1 ⟨ht, hq⟩ e1 r1 rs1 => ⟨onL_ty rs1 r1 ht, ρ, S1, _, E0, rl.ext e1.tup, rs1, hq, fun ds S2 vs H2 hq2 hd e2 r2 rs2 => ?_, ce.ext e1⟩, ce⟩
      obtain ⟨p, xs, rfl, hS, hq2⟩ := atLE hq2
      obtain ⟨y, rfl, hlt, hq2⟩ := on1E hq2
      obtain ⟨w, rfl, rw'⟩ := r2.one
      obtain ⟨vs, h1, h2⟩ := rs2.lst hS
      rw [(r1.ext e2.tup).refE]
      exact ⟨p, vs, w, rfl, rfl, h1, by rw [h2.length]; exact hlt, (cl.ext (e1.trans e2)).put rs2 hS h1 hq2 (h2.append (.cons rw' .nil)) .non⟩
  | extend =>
    cases es with
    | nil => cases hN
    | cons a l =>
      refine (pe_bm PySem.F.plainAttrs_list PySem.F.slot_list_extend PySem.F.type_list_extend mt_extend ho ha (base_of hb _) (few_of hp (by rw [hn]; exact h20)) hl (star_of (hp a List.mem_cons_self) _ _) (plains_star (fun e he => hp e (List.mem_cons_of_mem _ he)) _ _)).imp fun σ H Q ⟨ρ, S, Q0, E0, rl, rs, hw, cl, ce⟩ => ?_
      refine ⟨ρ, S, _, E0, rl, rs, hw, fun d S1 v H1 ⟨ht, hq⟩ e1 r1 rs1 => ⟨onL_ty rs1 r1 ht, ρ, S1, _, E0, rl.ext e1.tup, rs1, hq, fun ds S2 vs H2 hq2 hd e2 r2 rs2 => ?_, ce.ext e1⟩, ce⟩
      obtain ⟨p, xs, rfl, hS, hq2⟩ := atLE hq2
      obtain ⟨y, rfl, hq2⟩ := on1E hq2
      obtain ⟨b, es', rfl, hS2, hlt, hq2⟩ := onLE hq2
      obtain ⟨w, rfl, rw'⟩ := r2.one
      obtain ⟨vs, h1, h2⟩ := rs2.lst hS
      obtain ⟨ws, h3, h4⟩ := rs2.lst hS2
      rw [(r1.ext e2.tup).refE, rw'.refE]
      exact ⟨p, b, vs, ws, rfl, rfl, h1, h3, by rw [h2.length, h4.length]; exact hlt, (cl.ext (e1.trans e2)).put rs2 hS h1 hq2 (h2.append h4) .non⟩
  | pop =>
    obtain rfl : es = [] := List.isEmpty_iff.mp hN
    refine (pe_bm0 PySem.F.plainAttrs_list PySem.F.slot_list_pop PySem.F.type_list_pop mt_pop ho (base_of hb _) hl).imp fun σ H Q ⟨ρ, S, Q0, E0, rl, rs, hw, cl, ce⟩ => ?_
    refine ⟨ρ, S, _, E0, rl, rs, hw, fun d S1 v H1 ⟨ht, hq⟩ e1 r1 rs1 => ⟨onL_ty rs1 r1 ht, ?_⟩, ce⟩
    have hq := h0 rfl _ _ _ _ hq
    obtain ⟨p, xs, rfl, hS, _, hq⟩ := atLE hq
    obtain ⟨vs, h1, h2⟩ := rs1.lst hS
    split at hq
    · rename_i y hy
      obtain ⟨w, h3, h4⟩ := h2.get hy
      rw [r1.refE]
      exact ⟨p, vs, w, rfl, rfl, h1, by rw [h2.length]; exact h3, (cl.ext e1).put rs1 hS h1 hq h2.dropLast h4⟩
    · exact hq.elim
def lcT (N : List Str) (elt : Ex) (tg : Tg) (it : It') (ifs : EO) (own : List Nat) (sc : Scope) (el t i : Expr) (fs : List Expr) (k : Int) (scope : Scope) : Bool :=
  decide (k = 0) && blkC N sc scope (ownP N own) && (tgSl tg).all (fun i => decide (i ∈ own)) && chkI N it sc (isTupE t) i && chkT N tg (relS scope sc) false t && chkF N ifs (relS scope sc) fs && chkE N elt (relS scope sc) el
def lcW (C : Env') (elt : Ex) (tg : Tg) (it : It') (ifs : EO) (own : List Nat) : WA0 := fun E ρ S L => wpI C E it ρ S fun ds still S1 =>
  wLc (bindT tg) (fun ρ S k => wpT C E00 ifs ρ S k) (fun ρ S k => wpE C E00 elt ρ S k) still (wipeR ρ own) ds S1 [] L
theorem chkI_plain {N : List Str} {sc : Scope} {it : It'} {tp : Bool} {e : Expr} (h : chkI N it sc tp e = true) : plainE e = true := by
  cases it <;> (unfold chkI at h; first | exact plain_of_chk h | (split at h <;> first | rfl | cases h))
theorem lcL {elt : Ex} {ifs : EO} {it : It'} {tg : Tg} {own : List Nat} {W : WX} {X : Cx} {sc : Scope} {top : Bool} {el t i : Expr} {fs : List Expr} {k : Int} {scope : Scope} {pos : Pos} (o : OkX C W X sc N top) (h : lcT N elt tg it ifs own sc el t i fs k scope = true)
    (hI : chkI N it sc (isTupE t) i = true → PI X t i (iSem X.K W fun E ρ S Q => wpI C E it ρ S Q))
    (hF : ∀ {Y : Cx}, chkF N ifs (relS scope sc) fs = true → OkX C W00 Y (relS scope sc) N false → PTs Y fs (tSemB Y.K W00 fun E ρ S Q => wpT C E ifs ρ S Q))
    (hE : ∀ {Y : Cx}, chkE N elt (relS scope sc) el = true → OkX C W00 Y (relS scope sc) N false → OkE C W00 Y elt el) :
    PE X (.ListComp el [⟨t, i, fs, k⟩] scope pos) (tSemL X.K W (lcW C elt tg it ifs own)) := by
  unfold lcT at h
  simp only [Bool.and_eq_true, decide_eq_true_eq] at h
  obtain ⟨⟨⟨⟨⟨⟨rfl, h1⟩, h2⟩, h3⟩, h4⟩, h5⟩, h6⟩ := h
  have ok : BlkOk X.N X.env.scope scope (ownP N own) := by rw [o.eN, o.eS]; exact blkOk_by h1
  have hsl : ∀ j ∈ tgSl tg, j ∈ (ownP N own).map (·.2) := fun j hj => by
    rw [ownP_snd]
    exact of_decide_eq_true (List.all_eq_true.mp h2 j hj)
  have Kb := fun s H Ca cl fp => o.blk scope ok.kind s H Ca cl fp
  have hset := noset_of (chkI_plain h3) X.env
  have hNd : X.N.Nodup := by rw [o.eN]; exact o.nd
  have k1 : ∀ (s : Shared) (H : Hp) (Ca : Addr) (cl : List (Str × Addr)) (fp : List Addr), PG (X.blk s H scope (compEnvC scope cl Ca X.env) fp) t (gSem X.K (tgSl tg) (bindT tg)) := fun s H Ca cl fp => okT (Kb s H Ca cl fp) h4
  have k2 : ∀ (s : Shared) (H : Hp) (Ca : Addr) (cl : List (Str × Addr)) (fp : List Addr), PTs (X.blk s H scope (compEnvC scope cl Ca X.env) fp) fs (tSemB X.K W00 fun E ρ S Q => wpT C E ifs ρ S Q) := fun s H Ca cl fp => hF h5 (Kb s H Ca cl fp)
  have k3 : ∀ (s : Shared) (H : Hp) (Ca : Addr) (cl : List (Str × Addr)) (fp : List Addr), PE (X.blk s H scope (compEnvC scope cl Ca X.env) fp) el (tSem X.K W00 fun E ρ S Q => wpE C E elt ρ S Q) := fun s H Ca cl fp => (hE h6 (Kb s H Ca cl fp)).pe
  refine PE.imp (pe_lc o.calm hNd (hI h3) ok k1 k2 k3 hset) fun σ H Q q => ?_
  refine se_lc (W := W) (own := ownP N own) o.calm hNd (hI h3) ok k1 k2 k3 hset hsl σ H Q ?_
  rw [ownP_snd]
  exact q
/-- isinstance -/
theorem boot_isi {T : String} (h : T ∈ isiNames) : bootBuiltins (Str.ofString T) = some (.type T) ∧ Str.ofString T ∈ btNames := by
  simp only [isiNames, List.mem_cons, List.not_mem_nil, or_false] at h
  rcases h with rfl | rfl | rfl | rfl | rfl | rfl <;> exact ⟨by decide +kernel, by decide +kernel⟩
theorem tyN_rep {K : PySem.W.Frag} {H : Hp} {S : Store} {x : D} {v : V} {t : String} (rs : RepS K H S) (r : RepV K H v x) (h : tyN S x = some t) : TyX K H v (.type t) := by
  cases x with
  | non => cases h; rw [r.nonE]; exact .base .non
  | bl b => cases h; rw [r.blE]; exact .base (.bl b)
  | int b => cases h; rw [r.intE]; exact .base (.int b)
  | str b => cases h; rw [r.strE]; exact .base (.str b)
  | tup ds =>
    cases h
    obtain ⟨a, xs, rfl, h1, h2⟩ := r.tupE
    rcases h1 with (h1 | ⟨u, h1⟩) | ⟨u, its, n, h1, h2, _⟩
    · exact .base (.tup h1)
    · exact .fTuple h1
    · exact .kTuple h1 h2
  | ref a =>
    rw [r.refE]
    simp only [tyN] at h
    split at h
    · rename_i ds hS
      cases h
      obtain ⟨xs, h1, _⟩ := rs.lst hS
      exact .base (.lst h1)
    · rename_i ds hS
      cases h
      obtain ⟨kvs', kds, h1, h2, h3⟩ := rs a _ hS
      exact .base (.dK h1)
    · cases h
  | ty n => cases h
  | lk ds =>
    cases h
    obtain ⟨a, xs, rfl, h1, h2⟩ := r.lkE
    rcases h1 with ⟨u, h1⟩ | ⟨u, its, n, h1, h2, _⟩
    · exact .base (.frz h1)
    · exact .kList h1 h2
theorem se_isi {W : WX} {X : Cx} {sc : Scope} {top : Bool} (o : OkX C W X sc N top) {a : Expr} {T : String} {wa : WE0} {p p2 pos : Pos} (hT : T ∈ isiNames) (h1 : glB sc "isinstance" = true) (h2 : glB sc (Str.ofString T) = true) (ha : PE X a (tSem X.K W wa)) (hp : plainE a = true) :
    PE X (.Call (.Name "isinstance" p) [a, .Name (Str.ofString T) p2] [] pos) (tSem X.K W fun E ρ S Q => wa E ρ S fun x S1 => isiW S1 x T fun b => Q (.bl b) S1) := by
  obtain ⟨b1, b2⟩ := boot_isi hT
  have i2 : ("isinstance" : Str) ∈ btNames := by decide +kernel
  have pt : PE X (.Name (Str.ofString T) p2) (tC (.ty T)) := pe_bltn (glB_ok o.eS h2) (o.bt _ b2) b1 rfl (btn_ok b2).1 (btn_ok b2).2
  refine (pe_callB call_isi (glB_ok o.eS h1) (o.bt _ i2) (by decide +kernel) (pa_cons ha (pa_cons pt pa_nil rfl) (star_of hp _ _)) (btn_ok i2).1 (btn_ok i2).2 (star_of hp _ _) rfl).imp fun σ H Q ⟨ρ, S, Q0, E0, rl, rs, hw, cl, ce⟩ => ?_
  refine ⟨ρ, S, _, E0, rl, rs, hw, fun d S1 v H1 hq e1 r1 rs1 => ?_, ce⟩
  dsimp only at hq ⊢
  unfold isiW at hq
  split at hq
  · rename_i b hb
    obtain ⟨t, ht, hk⟩ := Option.bind_eq_some_iff.mp hb
    exact ⟨v, .ty T, .type t, .type T, b, rfl, .ty T, tyN_rep rs1 r1 ht, kit_ty hk, cl _ _ _ _ hq e1 (.bl b) rs1⟩
  · exact hq.elim
mutual
theorem okE : ∀ {ir : Ex} {W : WX} {X : Cx} {sc : Scope} {top : Bool} {e : Expr}, OkX C W X sc N top → chkE N ir sc e = true → OkE C W X ir e
  | .var i, W, X, sc, top, e, o, h => by
    unfold chkE at h
    split at h
    · rename_i x pos
      simp only [Bool.and_eq_true, decide_eq_true_eq] at h
      obtain ⟨⟨h1, h2⟩, h3⟩ := h
      obtain ⟨h3, h4⟩ := okN_ok h3
      exact .atom (se_var (by rw [o.eN]; exact h1) (by rw [o.eS]; exact visB_ok h2) h3 h4) rfl
    · cases h
  | .con d, W, X, sc, top, e, o, h => by
    unfold chkE at h
    split at h
    · exact .atom (okCon h) rfl
    · cases h
  | .glo x, W, X, sc, top, e, o, h => by
    unfold chkE at h
    split at h
    · simp only [Bool.and_eq_true, decide_eq_true_eq] at h
      obtain ⟨⟨rfl, h2⟩, h3⟩ := h
      cases hg : C.gl x with
      | none => exact .atom (pe_absurd fun E ρ S Q hw => by simp only [wpE, hg] at hw) rfl
      | some d =>
        obtain ⟨v, u, m1, m2, m3⟩ := o.gl x d hg
        refine .atom (PE.imp (se_con (W := W) (pe_glob (glB_ok o.eS h2) m1 m2 (okN_ok h3).1) m3) fun σ H Q q => ?_) rfl
        simpa only [wpE, hg] using q
    · cases h
  | .op o' a b, W, X, sc, top, e, o, h => by
    unfold chkE at h
    split at h
    · simp only [Bool.and_eq_true, decide_eq_true_eq] at h
      obtain ⟨⟨rfl, h1⟩, h2⟩ := h
      exact .atom (se_op (okE o h1).pe (okE o h2).pe) rfl
    · cases h
  | .neg a, W, X, sc, top, e, o, h => by
    unfold chkE at h
    split at h
    · exact .atom (se_neg (okE o h).pe) rfl
    · cases h
  | .cmp c a b, W, X, sc, top, e, o, h => by
    unfold chkE at h
    split at h
    · simp only [Bool.and_eq_true, decide_eq_true_eq] at h
      obtain ⟨⟨rfl, h1⟩, h2⟩ := h
      have m := nomark_of (plain_of_chk h2) (cmOp c)
      exact ⟨se_cmp o.hu (okE o h1).pe (okE o h2).pe m, fun _ => sb_cmp o.hu (okE o h1).pe (okE o h2).pe m, fun _ z => by cases z⟩
    · cases h
  | .chain c d x y z, W, X, sc, top, e, o, h => by unfold chkE at h; cases h
  | .and a b, W, X, sc, top, e, o, h => by
    unfold chkE at h
    split at h
    · simp only [Bool.and_eq_true] at h
      have A := okE o h.1
      have B := okE o h.2
      refine ⟨se_and A.pe B.pe, fun t => ?_, fun t _ => ?_⟩
      · simp only [tst, Bool.and_eq_true] at t
        exact (sb_and (A.pt t.1) (B.pw t.2 rfl)).pt
      · simp only [tst, Bool.and_eq_true] at t
        exact sb_and (A.pt t.1) (B.pw t.2 rfl)
    · cases h
  | .or a b, W, X, sc, top, e, o, h => by
    unfold chkE at h
    split at h
    · simp only [Bool.and_eq_true] at h
      have A := okE o h.1
      have B := okE o h.2
      refine ⟨se_or A.pe B.pe, fun t => ?_, fun t _ => ?_⟩
      · simp only [tst, Bool.and_eq_true] at t
        exact (sb_or (A.pt t.1) (B.pw t.2 rfl)).pt
      · simp only [tst, Bool.and_eq_true] at t
        exact sb_or (A.pt t.1) (B.pw t.2 rfl)
    · cases h
  | .one a, W, X, sc, top, e, o, h => by
    unfold chkE at h
    split at h
    · rename_i op x pos
      have A := okE o h
      have pw : tst a = true → PW X (.BoolOp op [x] pos) (tSemB X.K W fun E ρ S Q => wpB C E a ρ S Q) := fun t => by
        cases op with
        | And => exact pw_and1 (A.pt t)
        | Or => exact pw_or1 (A.pt t)
      exact ⟨pe_one A.pe, fun t => (pw t).pt, fun t _ => pw t⟩
    · cases h
  | .not a, W, X, sc, top, e, o, h => by
    unfold chkE at h
    split at h
    · have A := okE o h
      exact ⟨se_not A.pe, fun t => sb_not (A.pt t), fun _ z => by cases z⟩
    · cases h
  | .ife c a b, W, X, sc, top, e, o, h => by
    unfold chkE at h
    split at h
    · simp only [Bool.and_eq_true] at h
      obtain ⟨⟨⟨h0, h1⟩, h2⟩, h3⟩ := h
      exact ⟨se_ife ((okE o h1).pt h0) (okE o h2).pe (okE o h3).pe, fun t => by simp [tst] at t, fun t _ => by simp [tst] at t⟩
    · cases h
  | .tup es, W, X, sc, top, e, o, h => by
    unfold chkE at h
    split at h
    · simp only [Bool.and_eq_true, decide_eq_true_eq] at h
      exact .atom (se_tup (okEs o h.2) h.1) rfl
    · cases h
  | .lst es, W, X, sc, top, e, o, h => by
    unfold chkE at h
    split at h
    · simp only [Bool.and_eq_true, decide_eq_true_eq] at h
      exact .atom (se_lst (okEs o h.2) h.1) rfl
    · cases h
  | .dnew, W, X, sc, top, e, o, h => by
    unfold chkE at h
    split at h
    · exact .atom se_dnew rfl
    · cases h
  | .idx a b, W, X, sc, top, e, o, h => by
    unfold chkE at h
    split at h
    · simp only [Bool.and_eq_true] at h
      exact .atom (se_idx o.hu1 (okE o h.1).pe (okE o h.2).pe (nosl_of (plain_of_chk h.2))) rfl
    · cases h
  | .slc a lo hi, W, X, sc, top, e, o, h => by
    unfold chkE at h
    split at h
    · simp only [Bool.and_eq_true] at h
      exact .atom (se_slc (okE o h.1.1).pe (okO o h.1.2) (okO o h.2)) rfl
    · cases h
  | .rev a, W, X, sc, top, e, o, h => by
    unfold chkE at h
    split at h
    · simp only [Bool.and_eq_true, decide_eq_true_eq] at h
      obtain ⟨rfl, h⟩ := h
      exact .atom (se_rev (okE o h).pe) rfl
    · cases h
  | .call f es, W, X, sc, top, e, o, h => by
    unfold chkE at h
    split at h
    · rename_i x p l pos
      simp only [Bool.and_eq_true, decide_eq_true_eq] at h
      obtain ⟨⟨⟨rfl, h1⟩, h2⟩, h3⟩ := h
      cases hf : C.fn f with
      | none => exact .atom (pe_absurd fun E ρ S Q hw => by simp only [wpE, hf] at hw) rfl
      | some sp =>
        obtain ⟨g, fd, ps, k, F, hr, hm, hk, hb⟩ := o.fn _ _ hf
        cases l with
        | nil =>
          cases es with
          | nil =>
            refine .atom (PE.imp (se_call0 (W := W) F hr (glB_ok o.eS h1) hm hk hb o.tk (okN_ok h2).1) fun σ H Q q => ?_) rfl
            simpa only [wpE, hf, wpEs, List.length_nil] using q
          | cons _ _ => simp [chkEs] at h3
        | cons a l =>
          obtain ⟨p1, p2⟩ := plains_of_chk h3
          refine .atom (PE.imp (se_call F hr (glB_ok o.eS h1) hm hk hb o.tk (okEs o h3) (okN_ok h2).1 (star_of (p1 a List.mem_cons_self) _ _) (plains_star (fun e he => p1 e (List.mem_cons_of_mem _ he)) _ _)) fun σ H Q q => ?_) rfl
          simpa only [wpE, hf] using q
    · cases h
  | .bt b es, W, X, sc, top, e, o, h => by
    unfold chkE at h
    split at h
    · rename_i x p a l pos
      simp only [Bool.and_eq_true, decide_eq_true_eq] at h
      obtain ⟨⟨rfl, h1⟩, h2⟩ := h
      obtain ⟨p1, p2⟩ := plains_of_chk h2
      obtain ⟨id, hid⟩ := btV_k b
      exact .atom (se_bt o.calm o.hu5 hid (glB_ok o.eS h1) (o.bt _ (bindW_mem b)) (boot_bt b) (btn_ok (bindW_mem b)).1 (btn_ok (bindW_mem b)).2 (okEs o h2) (star_of (p1 a List.mem_cons_self) _ _) (plains_star (fun e he => p1 e (List.mem_cons_of_mem _ he)) _ _)) rfl
    · cases h
  | .bm m ob es, W, X, sc, top, e, o, h => by
    unfold chkE at h
    split at h
    · simp only [Bool.and_eq_true, decide_eq_true_eq] at h
      obtain ⟨⟨⟨⟨⟨⟨rfl, h0⟩, h1⟩, h2⟩, h3⟩, h4⟩, h5⟩ := h
      obtain ⟨p1, p2⟩ := plains_of_chk h5
      exact .atom (se_bm m (okE o h4).pe (okEs o h5) p2 p1 h1 h2 h3 h0 (fun z => by subst z; cases es with | nil => exact fun E ρ S Q q => q | cons _ _ => simp [chkEs] at h5)) rfl
    · cases h
  | .isi a T, W, X, sc, top, e, o, h => by
    unfold chkE at h
    split at h
    · simp only [Bool.and_eq_true, decide_eq_true_eq] at h
      obtain ⟨⟨⟨⟨⟨rfl, rfl⟩, h1⟩, h2⟩, h3⟩, h4⟩ := h
      exact .atom (se_isi o h1 h2 h3 (okE o h4).pe (plain_of_chk h4)) rfl
    · cases h
  | .isx i xs, W, X, sc, top, e, o, h => by unfold chkE at h; cases h
  | .join s a, W, X, sc, top, e, o, h => by
    unfold chkE at h
    split at h
    · simp only [Bool.and_eq_true, decide_eq_true_eq] at h
      obtain ⟨⟨⟨rfl, rfl⟩, h1⟩, h2⟩ := h
      exact .atom (se_join (okE o h2).pe (star_of (plain_of_chk h2) _ _) h1) rfl
    · cases h
  | .lc elt tg it ifs own, W, X, sc, top, e, o, h => by
    unfold chkE at h
    split at h
    · rename_i el t i fs k scope pos
      exact .atom (se_ofL (lcL (elt := elt) (ifs := ifs) (it := it) o h (fun h => okI o h) (fun h o' => okF o' h) (fun h o' => okE o' h))) rfl
    · cases h
  | .btl b elt tg it ifs own, W, X, sc, top, e, o, h => by
    unfold chkE at h
    split at h
    · rename_i x p el t i fs k scope pos pos'
      simp only [Bool.and_assoc] at h
      rw [Bool.and_eq_true, Bool.and_eq_true, decide_eq_true_eq] at h
      obtain ⟨rfl, h1, h⟩ := h
      obtain ⟨id, hid⟩ := btlV_k b
      exact .atom (se_btl o.calm o.hu5 hid (glB_ok o.eS h1) (o.bt _ (bindL_mem b)) (boot_btl b) (btn_ok (bindL_mem b)).1 (btn_ok (bindL_mem b)).2 (lcL (elt := elt) (ifs := ifs) (it := it) o (by unfold lcT; simp only [Bool.and_assoc]; exact h) (fun h => okI o h) (fun h o' => okF o' h) (fun h o' => okE o' h)) rfl) rfl
    · cases h
theorem okEs : ∀ {irs : Exs} {W : WX} {X : Cx} {sc : Scope} {top : Bool} {es : List Expr}, OkX C W X sc N top → chkEs N irs sc es = true → PA X es (tSemA X.K W (exsN irs) fun E ρ S Q => wpEs C E irs ρ S Q)
  | .nil, W, X, sc, top, es, o, h => by
    unfold chkEs at h
    split at h
    · exact sa_nil
    · cases h
  | .cons a r, W, X, sc, top, es, o, h => by
    unfold chkEs at h
    split at h
    · simp only [Bool.and_eq_true] at h
      exact sa_cons (okE o h.1).pe (okEs o h.2) (star_of (plain_of_chk h.1) _ _)
    · cases h
theorem okO : ∀ {ir : EO} {W : WX} {X : Cx} {sc : Scope} {top : Bool} {e : Option Expr}, OkX C W X sc N top → chkO N ir sc e = true → PO X e (tSemO X.K W fun E ρ S Q => wpO C E ir ρ S Q)
  | .none, W, X, sc, top, e, o, h => by
    unfold chkO at h
    split at h
    · exact so_none
    · cases h
  | .some a, W, X, sc, top, e, o, h => by
    unfold chkO at h
    split at h
    · exact so_some (okE o h).pe
    · cases h
theorem okF : ∀ {ir : EO} {W : WX} {X : Cx} {sc : Scope} {top : Bool} {fs : List Expr}, OkX C W X sc N top → chkF N ir sc fs = true → PTs X fs (tSemB X.K W fun E ρ S Q => wpT C E ir ρ S Q)
  | .none, W, X, sc, top, e, o, h => by
    unfold chkF at h
    split at h
    · exact ⟨fun pins s σ H Q I ⟨ρ, S, Q0, E0, rl, rs, hw, cl, ce⟩ => pts_nil.run pins s σ H Q I (cl _ _ _ hw Ext.refl rs)⟩
    · cases h
  | .some a, W, X, sc, top, e, o, h => by
    unfold chkF at h
    split at h
    · simp only [Bool.and_eq_true] at h
      exact pts_one ((okE o h.2).pt h.1)
    · cases h
theorem okI : ∀ {it : It'} {W : WX} {X : Cx} {sc : Scope} {top : Bool} {tg e : Expr}, OkX C W X sc N top → chkI N it sc (isTupE tg) e = true → PI X tg e (iSem X.K W fun E ρ S Q => wpI C E it ρ S Q)
  | .seq a, W, X, sc, top, tg, e, o, h => by
    unfold chkI at h
    exact si_seq (okE o h).pe
  | .rng a, W, X, sc, top, tg, e, o, h => by
    unfold chkI at h
    split at h
    · simp only [Bool.and_eq_true, decide_eq_true_eq] at h
      obtain ⟨⟨rfl, h1⟩, h2⟩ := h
      exact si_rng (glB_ok o.eS h1) (o.bt _ (by decide +kernel)) (okE o h2).pe (star_of (plain_of_chk h2) _ _)
    · cases h
  | .rng2 a b, W, X, sc, top, tg, e, o, h => by
    unfold chkI at h
    split at h
    · simp only [Bool.and_eq_true, decide_eq_true_eq] at h
      obtain ⟨⟨⟨rfl, h1⟩, h2⟩, h3⟩ := h
      exact si_rng2 (glB_ok o.eS h1) (o.bt _ (by decide +kernel)) (okE o h2).pe (okE o h3).pe (by rw [star_of (plain_of_chk h2), star_of (plain_of_chk h3)]; rfl) (star_of (plain_of_chk h3) _ _)
    · cases h
  | .enm a, W, X, sc, top, tg, e, o, h => by
    unfold chkI at h
    split at h
    · simp only [Bool.and_eq_true, decide_eq_true_eq] at h
      obtain ⟨⟨⟨h0, rfl⟩, h1⟩, h2⟩ := h
      cases tg with
      | Tuple elts kk tpos => exact si_enm (glB_ok o.eS h1) (o.bt _ (by decide +kernel)) (okE o h2).pe (star_of (plain_of_chk h2) _ _)
      | _ => cases h0
    · cases h
  | .zip a b, W, X, sc, top, tg, e, o, h => by
    unfold chkI at h
    split at h
    · simp only [Bool.and_eq_true, decide_eq_true_eq] at h
      obtain ⟨⟨⟨⟨h0, rfl⟩, h1⟩, h2⟩, h3⟩ := h
      cases tg with
      | Tuple elts kk tpos => exact si_zip (glB_ok o.eS h1) (o.bt _ (by decide +kernel)) (okE o h2).pe (okE o h3).pe (star_of (plain_of_chk h2) _ _) (star_of (plain_of_chk h3) _ _) (plains_star (fun e he => by rw [List.mem_singleton.mp he]; exact plain_of_chk h3) _ _)
      | _ => cases h0
    · cases h
  | .rev a, W, X, sc, top, tg, e, o, h => by
    unfold chkI at h
    split at h
    · simp only [Bool.and_eq_true, decide_eq_true_eq] at h
      obtain ⟨⟨rfl, h1⟩, h2⟩ := h
      exact si_rev (glB_ok o.eS h1) (o.bt _ (by decide +kernel)) (okE o h2).pe (star_of (plain_of_chk h2) _ _)
    · cases h
  | .revr a, W, X, sc, top, tg, e, o, h => by
    unfold chkI at h
    split at h
    · simp only [Bool.and_eq_true, decide_eq_true_eq] at h
      obtain ⟨⟨⟨⟨rfl, h1⟩, rfl⟩, h2⟩, h3⟩ := h
      exact si_revr (glB_ok o.eS h2) (o.bt _ (by decide +kernel)) (glB_ok o.eS h1) (o.bt _ (by decide +kernel)) (okE o h3).pe (star_of (plain_of_chk h3) _ _)
    · cases h
end
end
end Fel
end

section
set_option maxHeartbeats 8000000
/-! Errors: raise, try, what a suite may do. -/
namespace L2
open PySem PySem.Spec PyProof.Rows
theorem call_isET {X : Cx} {a D : Addr} {oe : Obj} {pn : List (Addr × Obj)} (C : ExcC X.K D) (hz : Zc (.ref D) none oe) (hf : ∃ vs, oe.data = .fields vs) : CallR (X.suite a ((a, oe) :: pn)) (.builtin "isinstance")
    (fun xs H Q => ∃ (tp : Addr) (cs : List V) (ws : List Value) (b : Bool), xs = [.ref a, .ref tp] ∧ H tp = some (.tup cs) ∧ Paired ClsV cs ws ∧ PySem.W.kitAny X.K (.ref D) ws = some b ∧ Q (.bl b) H) := by
  intro pins s σ H xs us Q I r h
  obtain ⟨tp, cs, ws, b, rfl, hT, k, e, q⟩ := h
  obtain ⟨u1, u2, rfl, r1, r2⟩ := vals2 r
  cases (show u2 = Value.ref tp from r2)
  cases (show u1 = Value.ref a from r1)
  obtain ⟨hget, _⟩ := I.pin (a, oe) (List.mem_append.mpr (.inl List.mem_cons_self))
  obtain ⟨vs, hv⟩ := hf
  have J : PySem.W.InstAt s.heap a oe D none := by
    obtain ⟨oc, od, oda, osl⟩ := oe
    obtain ⟨h1, h2⟩ := hz
    dsimp only at h1 h2 hv
    subst h1 h2 hv
    exact ⟨hget, rfl, rfl, trivial⟩
  obtain ⟨_, its, rv, o, h1, h2, n, h3⟩ := (show ObjOk X.prog X.w H s.heap tp (.tup cs) from I.hok tp _ hT)
  have e3 := ClsV.all k rv
  subst e3
  obtain ⟨oc, od, dt, sl⟩ := o
  simp only at h2 h3
  subst h2 h3
  exact PySem.W.kia_tup (PySem.W.handS_kitx_exc C.hg C.hk C.hs C.hd C.ha C.hn C.ht C.hm) I.kIn J h1 e (fun z => nomatch z) fun tk => ⟨.bl b, H, I.kept (t' := tk) fun _ _ z => z, rfl, q⟩
end L2
namespace Fel
open PySem L2 PySem.Spec PyProof.Rows
section
variable {C : Env'} {N : List Str}
theorem set_imp {W : WX} {X : Cx} {te : TE} {w : WE0} {i : Nat} (hte : ∀ σ H Q, tSem X.K W w σ H Q → te σ H Q) : ∀ D σ H, sSem X.K W (fun E ρ S D => w E ρ S fun x S1 => bindT (.name i) x ρ fun ρ1 => D.nx ρ1 S1) D σ H → tAsg te (gName i) D σ H :=
  fun D σ H ⟨ρ, S, D0, E0, rl, rs, hw, cn, cr, ce⟩ => hte _ _ _ ⟨ρ, S, _, E0, rl, rs, hw, fun d S1 v H1 q e1 r1 rs1 => cn _ _ _ _ q e1 ((rl.ext e1.tup).set r1 i) rs1, ce⟩
theorem plain_of_chkH {sc : Scope} {ir : Ex} {e : Expr} (h : chkHE N ir sc e = true) : plainE e = true := by
  cases ir <;> first | (unfold chkHE at h; exact plain_of_chk h) | (unfold chkHE at h; split at h <;> first | rfl | cases h) | (simp [chkHE] at h; done)
theorem plains_of_chkH {sc : Scope} : ∀ {irs : Exs} {es : List Expr}, chkHEs N irs sc es = true → (∀ e ∈ es, plainE e = true) ∧ es.length = exsN irs
  | .nil, [], _ => ⟨fun _ h => (nomatch h), rfl⟩
  | .nil, _ :: _, h => by simp [chkHEs] at h
  | .cons a r, [], h => by simp [chkHEs] at h
  | .cons a r, e :: es, h => by
    simp only [chkHEs, Bool.and_eq_true] at h
    obtain ⟨h1, h2⟩ := plains_of_chkH h.2
    refine And.intro (fun x hx => ?_) (by simp [exsN, h2])
    rcases List.mem_cons.mp hx with rfl | hx
    · exact plain_of_chkH h.1
    · exact h1 x hx
/-- the class that a name tells -/
theorem pe_cls {X : Cx} {x : Str} {p : Pos} {v : V} {u : Value} (hv : ClsV v u) (hg : Gl X x) (hn : okN x = true) (hm : X.mg x = some u ∨ (X.mg x = none ∧ bootBuiltins x = some u ∧ x ≠ "__name__")) : PE X (.Name x p) (tC v) := by
  rcases hm with hm | ⟨hm, hb, hne⟩
  · cases hv with
    | ty n => exact pe_glob hg hm rfl (okN_ok hn).1
    | own c => exact pe_glob hg hm rfl (okN_ok hn).1
  · cases hv with
    | ty n => exact pe_bltn hg hm hb rfl hne (okN_ok hn).1
    | own c => exact pe_bltn hg hm hb rfl hne (okN_ok hn).1
/-- the suite's outer context and its error -/
structure OkH (C : Env') (X : Cx) (sc : Scope) (N : List Str) (a c : Addr) (oe : Obj) (pn : List (Addr × Obj)) : Prop where
  eN : X.N = N
  eS : X.env.scope = sc
  bt : ∀ x, x ∈ btNames → X.mg x = none
  xf : XF X.K X.mg C
  nd : N.Nodup
  fnt : ∀ x, X.fn x = true
  ec : ExcC X.K c
  hz : Zc (.ref c) none oe
  hf : ∃ vs, oe.data = .fields vs
def Env'.hot (C : Env') (a c : Addr) : Env' := { C with err := some (a, c) }
theorem kit_all {K : PySem.W.Frag} {mg : Str → Option Value} (f : XF K mg C) {c : Addr} : ∀ {xs : List Str}, allSub (C.sub c) xs = true → ∃ (vs : List V) (us : List Value), Paired ClsV vs us ∧ Paired (fun x u => mg x = some u ∨ (mg x = none ∧ bootBuiltins x = some u ∧ x ≠ "__name__")) xs us ∧ ∀ b, isxB (C.sub c) xs = some b → PySem.W.kitAny K (.ref c) us = some b
  | [], _ => ⟨[], [], .nil, .nil, fun b h => by cases h; rfl⟩
  | x :: xs, h => by
    simp only [allSub, List.all_cons, Bool.and_eq_true] at h
    obtain ⟨vs, us, p1, p2, p3⟩ := kit_all f (xs := xs) h.2
    obtain ⟨b0, e0⟩ := Option.isSome_iff_exists.mp h.1
    obtain ⟨_, v, u, hv, hm, hk, _⟩ := f.is c x b0 e0
    refine ⟨v :: vs, u :: us, .cons hv p1, .cons hm p2, fun b hb => ?_⟩
    simp only [isxB, e0] at hb
    cases b0 with
    | true => cases hb; exact kitAny_cons hk (fun z => by cases z) fun _ => rfl
    | false => exact kitAny_cons hk (fun _ => p3 b hb) fun z => by cases z
theorem pa_clss {X : Cx} : ∀ {es : List Expr} {xs : List Str} {vs : List V} {us : List Value}, es.map nameE = xs.map some → (∀ x ∈ xs, Gl X x ∧ okN x = true) → Paired ClsV vs us → Paired (fun x u => X.mg x = some u ∨ (X.mg x = none ∧ bootBuiltins x = some u ∧ x ≠ "__name__")) xs us →
    PA X es (fun _ H Q => Q vs H)
  | [], [], _, _, _, _, .nil, .nil => pa_nil.imp fun σ H Q q => q
  | e :: es, x :: xs, _, _, h, g, .cons hv p1, .cons hm p2 => by
    simp only [List.map_cons, List.cons.injEq] at h
    cases e with
    | Name y p =>
      have hy : y = x := by simpa [nameE] using h.1
      subst hy
      exact (pa_cons (pe_cls hv (g y List.mem_cons_self).1 (g y List.mem_cons_self).2 hm) (pa_clss h.2 (fun z hz => g z (List.mem_cons_of_mem _ hz)) p1 p2) rfl).imp fun σ H Q q => q
    | _ => simp [nameE] at h
  | [], _ :: _, _, _, h, _, _, _ => by simp at h
  | _ :: _, [], _, _, h, _, _, _ => by simp at h
theorem se_isx1 {X : Cx} {sc : Scope} {a c : Addr} {oe : Obj} {pn : List (Addr × Obj)} (o : OkH C X sc N a c oe pn) {i : Nat} {y t : Str} {p p1 p2 pos : Pos} (h1 : glB sc "isinstance" = true) (h2 : N[i]? = some y) (h3 : visB sc y = true) (h4 : okN y = true) (h5 : glB sc t = true) (h6 : okN t = true) :
    PE (X.suite a ((a, oe) :: pn)) (.Call (.Name "isinstance" p) [.Name y p1, .Name t p2] [] pos) (tSem X.K W00 fun E ρ S Q => wpE (C.hot a c) E (.isx i [t]) ρ S Q) := by
  have i2 : ("isinstance" : Str) ∈ btNames := by decide +kernel
  cases e : C.sub c t with
  | none =>
    refine pe_absurd fun E ρ S Q hw => ?_
    obtain ⟨d, _, hw⟩ := getV_iff (show getV ρ i _ from hw)
    simp [Env'.hot, isxW, allSub, e] at hw
  | some b =>
    obtain ⟨_, v, u, hv, hm, hk, _⟩ := o.xf.is c t b e
    refine (pe_callB (call_isE o.ec o.hz o.hf) (show Gl X _ from glB_ok o.eS h1) (o.bt _ i2) (by decide +kernel) (pa_cons (pe_var (i := i) (show X.N[i]? = some y by rw [o.eN]; exact h2) (show Vis X.env.scope y by rw [o.eS]; exact visB_ok h3) (okN_ok h4).1 (okN_ok h4).2) (pa_cons (pe_cls hv (show Gl X _ from glB_ok o.eS h5) h6 hm) pa_nil rfl) rfl) (btn_ok i2).1 (btn_ok i2).2 rfl rfl).imp fun σ H Q ⟨ρ, S, Q0, E0, rl, rs, hw, cl, ce⟩ => ?_
    obtain ⟨d, q1, hw⟩ := getV_iff (show getV ρ i _ from hw)
    simp only [Env'.hot, isxW, isxB, e] at hw
    obtain ⟨rfl, _, hw⟩ := hw
    obtain ⟨v', q3, q4⟩ := rl.2 i _ q1
    rw [q4.refE] at q3
    refine ⟨.ref a, q3, v, u, b, rfl, fun w hw => hv.eq hw, hk, cl.same rs ?_ (.bl b)⟩
    cases b <;> exact hw
theorem se_isxT {X : Cx} {sc : Scope} {a c : Addr} {oe : Obj} {pn : List (Addr × Obj)} (o : OkH C X sc N a c oe pn) {i : Nat} {y : Str} {xs : List Str} {l : List Expr} {k : Nat} {p p1 p2 pos : Pos} (h1 : glB sc "isinstance" = true) (h2 : N[i]? = some y) (h3 : visB sc y = true) (h4 : okN y = true) (h5 : l.map nameE = xs.map some) (h6 : ∀ x ∈ xs, glB sc x = true ∧ okN x = true) (h7 : xs.length ≤ 1000) :
    PE (X.suite a ((a, oe) :: pn)) (.Call (.Name "isinstance" p) [.Name y p1, .Tuple l k p2] [] pos) (tSem X.K W00 fun E ρ S Q => wpE (C.hot a c) E (.isx i xs) ρ S Q) := by
  have i2 : ("isinstance" : Str) ∈ btNames := by decide +kernel
  cases e : allSub (C.sub c) xs with
  | false =>
    refine pe_absurd fun E ρ S Q hw => ?_
    obtain ⟨d, _, hw⟩ := getV_iff (show getV ρ i _ from hw)
    simp [Env'.hot, isxW, e] at hw
  | true =>
    obtain ⟨vs, us, p1, p2, p3⟩ := kit_all o.xf e
    refine (pe_callB (call_isET o.ec o.hz o.hf) (show Gl X _ from glB_ok o.eS h1) (o.bt _ i2) (by decide +kernel) (pa_cons (pe_var (i := i) (show X.N[i]? = some y by rw [o.eN]; exact h2) (show Vis X.env.scope y by rw [o.eS]; exact visB_ok h3) (okN_ok h4).1 (okN_ok h4).2) (pa_cons (pe_tup (pa_clss h5 (fun x hx => ⟨show Gl X _ from glB_ok o.eS (h6 x hx).1, (h6 x hx).2⟩) p1 p2)) pa_nil rfl) rfl) (btn_ok i2).1 (btn_ok i2).2 rfl rfl).imp fun σ H Q ⟨ρ, S, Q0, E0, rl, rs, hw, cl, ce⟩ => ?_
    obtain ⟨d, q1, hw⟩ := getV_iff (show getV ρ i _ from hw)
    simp only [Env'.hot, isxW] at hw
    obtain ⟨rfl, _, hw⟩ := hw
    obtain ⟨v', q3, q4⟩ := rl.2 i _ q1
    rw [q4.refE] at q3
    split at hw
    · rename_i b hb
      have hl : vs.length = xs.length := by rw [Paired.length p1, Paired.length p2]
      refine ⟨.ref a, q3, by rw [hl]; exact Nat.le_of_lt (small1000 h7), fun t ht => ⟨t, vs, us, b, rfl, upd_same, p1, p3 b hb, ?_⟩⟩
      exact cl _ _ _ _ hw (Ext.alloc ht fun a h e => e) (.bl b) (rs.alloc0 ht)
    · exact hw.elim
mutual
theorem okHE {X : Cx} {sc : Scope} {a c : Addr} {oe : Obj} {pn : List (Addr × Obj)} (o : OkH C X sc N a c oe pn) : ∀ {ir : Ex} {e : Expr}, chkHE N ir sc e = true → PE (X.suite a ((a, oe) :: pn)) e (tSem X.K W00 fun E ρ S Q => wpE (C.hot a c) E ir ρ S Q)
  | .con d, e, h => by
    unfold chkHE at h
    unfold chkE at h
    split at h
    · exact okCon (X := X.suite a ((a, oe) :: pn)) h
    · cases h
  | .var i, e, h => by
    unfold chkHE at h
    unfold chkE at h
    split at h
    · rename_i x pos
      simp only [Bool.and_eq_true, decide_eq_true_eq] at h
      obtain ⟨⟨h1, h2⟩, h3⟩ := h
      obtain ⟨h3, h4⟩ := okN_ok h3
      exact se_var (X := X.suite a ((a, oe) :: pn)) (show X.N[i]? = some x by rw [o.eN]; exact h1) (show Vis X.env.scope x by rw [o.eS]; exact visB_ok h2) h3 h4
    · cases h
  | .lst es, e, h => by
    unfold chkHE at h
    split at h
    · simp only [Bool.and_eq_true, decide_eq_true_eq] at h
      exact se_lst (X := X.suite a ((a, oe) :: pn)) (okHEs o h.2) h.1
    · cases h
  | .isx i xs, e, h => by
    unfold chkHE at h
    split at h
    · simp only [Bool.and_eq_true, decide_eq_true_eq] at h
      obtain ⟨⟨⟨⟨⟨⟨⟨rfl, h1⟩, h2⟩, h3⟩, h4⟩, rfl⟩, h5⟩, h6⟩ := h
      exact se_isx1 o h1 h2 h3 h4 h5 h6
    · simp only [Bool.and_eq_true, decide_eq_true_eq, List.all_eq_true] at h
      obtain ⟨⟨⟨⟨⟨⟨⟨rfl, h1⟩, h2⟩, h3⟩, h4⟩, h5⟩, h6⟩, h7⟩ := h
      exact se_isxT o h1 h2 h3 h4 h5 h6 h7
    · cases h
  | .bm m ob es, e, h => by
    unfold chkHE at h
    split at h
    · simp only [Bool.and_eq_true, decide_eq_true_eq] at h
      obtain ⟨⟨⟨⟨⟨⟨rfl, h0⟩, h1⟩, h2⟩, h3⟩, h4⟩, h5⟩ := h
      obtain ⟨p1, p2⟩ := plains_of_chkH h5
      exact se_bm (X := X.suite a ((a, oe) :: pn)) m (okHE o h4) (okHEs o h5) p2 p1 h1 h2 h3 h0 (fun z => by subst z; cases es with | nil => exact fun E ρ S Q q => q | cons _ _ => simp [chkHEs] at h5)
    · cases h
  | .glo _, _, h => by simp [chkHE] at h
  | .op .., _, h => by simp [chkHE] at h
  | .neg _, _, h => by simp [chkHE] at h
  | .cmp .., _, h => by simp [chkHE] at h
  | .chain .., _, h => by simp [chkHE] at h
  | .and .., _, h => by simp [chkHE] at h
  | .or .., _, h => by simp [chkHE] at h
  | .one .., _, h => by simp [chkHE] at h
  | .not .., _, h => by simp [chkHE] at h
  | .ife .., _, h => by simp [chkHE] at h
  | .tup .., _, h => by simp [chkHE] at h
  | .dnew, _, h => by simp [chkHE] at h
  | .idx .., _, h => by simp [chkHE] at h
  | .slc .., _, h => by simp [chkHE] at h
  | .rev .., _, h => by simp [chkHE] at h
  | .call .., _, h => by simp [chkHE] at h
  | .bt .., _, h => by simp [chkHE] at h
  | .isi .., _, h => by simp [chkHE] at h
  | .join .., _, h => by simp [chkHE] at h
  | .lc .., _, h => by simp [chkHE] at h
  | .btl .., _, h => by simp [chkHE] at h
theorem okHEs {X : Cx} {sc : Scope} {a c : Addr} {oe : Obj} {pn : List (Addr × Obj)} (o : OkH C X sc N a c oe pn) : ∀ {irs : Exs} {es : List Expr}, chkHEs N irs sc es = true → PA (X.suite a ((a, oe) :: pn)) es (tSemA X.K W00 (exsN irs) fun E ρ S Q => wpEs (C.hot a c) E irs ρ S Q)
  | .nil, es, h => by
    unfold chkHEs at h
    split at h
    · exact sa_nil (X := X.suite a ((a, oe) :: pn))
    · cases h
  | .cons e r, es, h => by
    unfold chkHEs at h
    split at h
    · simp only [Bool.and_eq_true] at h
      exact sa_cons (X := X.suite a ((a, oe) :: pn)) (okHE o h.1) (okHEs o h.2) (star_of (plain_of_chkH h.1) _ _)
    · cases h
end
theorem okHs {X : Cx} {sc : Scope} {a c : Addr} {oe : Obj} {pn : List (Addr × Obj)} (o : OkH C X sc N a c oe pn) : ∀ {h : List Hx} {sts : List Stmt}, chkHs N h sc sts = true → PSs (X.suite a ((a, oe) :: pn)) sts (sSem X.K W00 fun E ρ S D => wpHs (C.hot a c) E h ρ S D)
  | [], sts, h => by
    unfold chkHs at h
    obtain rfl := List.isEmpty_iff.mp h
    exact ss_nil (X := X.suite a ((a, oe) :: pn))
  | .set i e :: r, sts, h => by
    unfold chkHs at h
    split at h
    · rename_i y p v pos l'
      simp only [Bool.and_eq_true, decide_eq_true_eq, Option.isNone_iff_eq_none] at h
      obtain ⟨⟨⟨⟨h1, h2⟩, h3⟩, h4⟩, h5⟩ := h
      refine (ss_cons (X := X.suite a ((a, oe) :: pn)) (PS.imp (ps_set (X := X.suite a ((a, oe) :: pn)) (i := i) (show X.N.Nodup by rw [o.eN]; exact o.nd) (show X.N[i]? = some y by rw [o.eN]; exact h1) (show Loc X.env.scope y by rw [o.eS]; exact (locB_ok h2).1) (okHE o h4) (swap_of (plain_of_chkH h4) h3 _ _ _) (.inl (o.fnt y))) (set_imp fun _ _ _ q => q)) (okHs o h5)).imp fun D σ H q => q
    · cases h
  | .ex e :: r, sts, h => by
    unfold chkHs at h
    split at h
    · simp only [Bool.and_eq_true, Option.isNone_iff_eq_none] at h
      obtain ⟨⟨h1, h2⟩, h3⟩ := h
      exact (ss_cons (X := X.suite a ((a, oe) :: pn)) (ss_ex (X := X.suite a ((a, oe) :: pn)) (okHE o h2) (swap_of (plain_of_chkH h2) h1 _ _ _)) (okHs o h3)).imp fun D σ H q => q
    · cases h
  | .ret e :: r, sts, h => by
    unfold chkHs at h
    split at h
    · simp only [Bool.and_eq_true] at h
      obtain ⟨h1, h2⟩ := h
      exact (ss_cons (X := X.suite a ((a, oe) :: pn)) (ss_ret (X := X.suite a ((a, oe) :: pn)) (okHE o h1)) (okHs o h2)).imp fun D σ H q => q
    · cases h
theorem ss_raise {W : WX} {X : Cx} {sc : Scope} (o : OkX C W X sc N true) {x m : Str} {j : Nat} {p p2 pos pos2 : Pos} (h1 : glB sc x = true) (h2 : okN x = true) :
    PS X (.Raise (some (.Call (.Name x p) [.Constant (.str m) j p2] [] pos)) none pos2) (sSem X.K W fun E ρ S D => wpS C E (.raise x) ρ S D) := by
  cases e : C.ex x with
  | none => exact ⟨fun _ _ _ _ _ _ ⟨ρ, S, D0, E0, _, _, hw, _⟩ => by simp only [wpS, e] at hw⟩
  | some c =>
    obtain ⟨m1, m2, m3, m4, m5⟩ := o.xf.ec x c e
    refine (ps_raise o.calm o.tk (pmk_own PySem.F.excBase_ValueError m2 m1 m3 (raises_own m4 m5) (glB_ok o.eS h1) (okN_ok h2).1)).imp fun D σ H ⟨ρ, S, D0, E0, rl, rs, hw, cn, cr, ce⟩ => ?_
    simp only [wpS, e] at hw
    exact ce _ _ _ _ none _ _ hw Ext.refl rl rs trivial
theorem ss_tryAs {W : WX} {X : Cx} {sc : Scope} (o : OkX C W X sc N true) {x n : Str} {i : Nat} {b : Sxs} {hx : List Hx} {body suite : List Stmt} {s0 : Stmt} {p pos pos2 : Pos} (hb : ∀ {W' : WX} {pn : List (Addr × Obj)} {xe : Value → Shared → Prop}, OkX C W' (X.tr pn xe) sc N true → PSs (X.tr pn xe) body (sSem X.K W' fun E ρ S D => wpSs C E b ρ S D))
    (h1 : glB sc x = true) (h2 : okN x = true) (h3 : N[i]? = some n) (h4 : sc.names.lookup n = some .local) (h6 : chkHs N hx sc (s0 :: suite) = true) :
    PS X (.Try body [.ExceptHandler (some (.Name x p)) (some n) (s0 :: suite) pos] [] [] pos2) (sSem X.K W fun E ρ S D => wpS C E (.tryAs b x i hx) ρ S D) := by
  cases e : C.ex x with
  | none => exact ⟨fun _ _ _ _ _ _ ⟨ρ, S, D0, E0, _, _, hw, _⟩ => by simp [wpS, e] at hw⟩
  | some cl =>
    obtain ⟨m1, _⟩ := o.xf.ec x cl e
    obtain ⟨t1, t2⟩ := o.tp rfl
    have hok : ∀ {c : Addr} {bb : Bool}, C.sub c x = some bb → PySem.W.exmOne X.K (.ref c) (.ref cl) = some bb := fun {c bb} h => by
      obtain ⟨_, v, u, hv, hm, _, hk⟩ := o.xf.is c x bb h
      rcases hm with hm | ⟨hm, _⟩
      · rw [m1] at hm; cases hm; exact hk
      · rw [m1] at hm; cases hm
    refine (ps_try_as (i := i) (c := .ref cl) (Wout := W) (ts := fun a cls d => fun D σ H => ∃ c, cls = .ref c ∧ d = none ∧ (∃ bb, C.sub c x = some bb) ∧ sSem X.K W00 (fun E ρ S D => wpHs (C.hot a c) E hx ρ S D) D σ H) (tb := fun W' => sSem X.K W' fun E ρ S D => wpSs C E b ρ S D) t1 t2 (by rw [o.eN]; exact o.nd) (by rw [o.eN]; exact h3) (by unfold Env.kindOf; rw [o.eS]; exact h4) ⟨glB_ok o.eS h1, (okN_ok h2).1, .inl m1⟩ o.tk
      (fun W' pn xe tk po => hb { o with tk := tk, po := po }) (fun a oe cls d pn hz hf => ⟨fun pins s σ H D I ⟨c, hc, hd, ⟨bb, hbb⟩, q⟩ => ?_⟩)).imp fun D σ H ⟨ρ, S, D0, E0, rl, rs, hw, cn, cr, ce⟩ => ?_
    · subst hc hd
      exact (okHs (C := C) (N := N) (a := a) (c := c) (oe := oe) (pn := pn) ⟨o.eN, o.eS, o.bt, o.xf, o.nd, o.fnt rfl, (o.xf.is c x bb hbb).1, hz, hf⟩ h6).run pins s σ H D I q
    · simp only [wpS, e] at hw
      refine ⟨ρ, S, D0, _, rl, rs, hw.2, cn, cr, fun c f ρ' S' od σ' H' hq ex rl' rs' rx => ?_⟩
      unfold tryW at hq
      split at hq
      · rename_i hs
        obtain ⟨rfl, hq⟩ := hq
        refine ⟨true, hok hs, fun _ a ha => ?_, fun z => by cases z⟩
        have hSa : S' a = none := by
          cases es : S' a with
          | none => rfl
          | some ob =>
            have := rs' a ob es
            cases ob with
            | lst ds => obtain ⟨_, z, _⟩ := this; rw [ha] at z; cases z
            | dic ds => obtain ⟨_, _, z, _⟩ := this; rw [ha] at z; cases z
            | ins c ds => obtain ⟨_, _, z, _⟩ := this; rw [ha] at z; cases z
        refine ⟨c, rfl, ?_, ⟨_, hs⟩, ρ'.set i (some (.ref a)), S', _, (fun _ _ _ _ => False), rl'.set (.ref a) i, rs', hq a hSa, fun ρ1 S1 σ1 H1 q e1 r1 s1 => ?_, cr.ext ex, fun _ _ _ _ _ _ _ z => z.elim⟩
        · cases od with
          | none => rfl
          | some dd => exact rx.elim
        · exact cn _ _ _ _ q (ex.trans e1) (r1.setN i) s1
      · rename_i hs
        exact ⟨false, hok hs, (fun z => by cases z), fun _ => ce _ _ _ _ _ _ _ hq ex rl' rs' rx⟩
      · exact hq.elim
end
end Fel
end

section
set_option maxHeartbeats 8000000
/-! The check is sound: statements, defs. -/
namespace Fel
open PySem L2 PySem.Spec PyProof.Rows
section
variable {C : Env'} {N : List Str}
theorem swaps_lc (elt : Expr) (gs : List Comprehension) (scope : Scope) (pos py : Pos) (y : Str) (l : Nat) (env : Env) : swapsWith (.ListComp elt gs scope pos) (some (.Name y py)) l env =
    pure (env.blockKind == .function && env.kindOf y == some .local && py.line == pos.line && !(scope.names.any fun (n, k) => n == y && (k == .local || k == .cell))) := by
  unfold swapsWith
  rfl
theorem sole_of (t v : Expr) (l : Nat) (env : Env) : swapsWithSole [t] v l env = swapsWith v (some t) l env := by unfold swapsWithSole; rfl
theorem ss_setN {W : WX} {X : Cx} {sc : Scope} {i : Nat} {e : Ex} {y : Str} {p pos : Pos} {v : Expr} (o : OkX C W X sc N true) (hT : chkT N (.name i) sc true (.Name y p) = true) (hv : chkE N e sc v = true) : PS X (.Assign [.Name y p] v pos) (sSem X.K W fun E ρ S D => wpS C E (.set (.name i) e) ρ S D) := by
  simp only [chkT, Bool.and_eq_true, decide_eq_true_eq] at hT
  obtain ⟨t1, t2⟩ := hT
  obtain ⟨t2, t3⟩ := locB_ok t2
  have hNd : X.N.Nodup := by rw [o.eN]; exact o.nd
  have hNi : X.N[i]? = some y := by rw [o.eN]; exact t1
  have hLoc : Loc X.env.scope y := by rw [o.eS]; exact t2
  have A := okE o hv
  have plain : swapsWith v (some (.Name y p)) pos.line X.env = pure false → PS X (.Assign [.Name y p] v pos) (sSem X.K W fun E ρ S D => wpS C E (.set (.name i) e) ρ S D) := fun hs =>
    (ps_set hNd hNi hLoc A.pe hs (.inl (o.fnt rfl y))).imp (set_imp fun _ _ _ q => q)
  by_cases hl : lcScope v = none
  · exact plain (swap_of (plain_of_chk hv) hl _ _ _)
  · cases v with
    | ListComp el gs scope q =>
      by_cases hb : (X.env.blockKind == .function && X.env.kindOf y == some .local && p.line == q.line && !(scope.names.any fun (n, k) => n == y && (k == .local || k == .cell))) = true
      · have hloc : X.env.scope.names.lookup y = some .local := by
          simp only [Bool.and_eq_true, beq_iff_eq] at hb
          exact hb.1.1.2
        cases e with
        | lc elt tg it ifs own =>
          unfold chkE at hv
          split at hv
          · rename_i el' t i' fs k scope' pos' heq
            injection heq with e1 e2 e3 e4
            subst e1 e2 e3 e4
            have h := hv
            simp only [Bool.and_eq_true, decide_eq_true_eq] at h
            obtain ⟨⟨⟨⟨⟨⟨rfl, h1⟩, h2⟩, h3⟩, h4⟩, h5⟩, h6⟩ := h
            have ok : BlkOk X.N X.env.scope scope (ownP N own) := by rw [o.eN, o.eS]; exact blkOk_by h1
            have hsl : ∀ j ∈ tgSl tg, j ∈ (ownP N own).map (·.2) := fun j hj => by
              rw [ownP_snd]
              exact of_decide_eq_true (List.all_eq_true.mp h2 j hj)
            have Kb := fun s H Ca cl fp => o.blk scope ok.kind s H Ca cl fp
            have hset := noset_of (chkI_plain h3) X.env
            have hI : PI X t i' (iSem X.K W fun E ρ S Q => wpI C E it ρ S Q) := okI o h3
            have k1 : ∀ (s : Shared) (H : Hp) (Ca : Addr) (cl : List (Str × Addr)) (fp : List Addr), PG (X.blk s H scope (compEnvC scope cl Ca X.env) fp) t (gSem X.K (tgSl tg) (bindT tg)) := fun s H Ca cl fp => okT (Kb s H Ca cl fp) h4
            have k2 : ∀ (s : Shared) (H : Hp) (Ca : Addr) (cl : List (Str × Addr)) (fp : List Addr), PTs (X.blk s H scope (compEnvC scope cl Ca X.env) fp) fs (tSemB X.K W00 fun E ρ S Q => wpT C E ifs ρ S Q) := fun s H Ca cl fp => okF (Kb s H Ca cl fp) h5
            have k3 : ∀ (s : Shared) (H : Hp) (Ca : Addr) (cl : List (Str × Addr)) (fp : List Addr), PE (X.blk s H scope (compEnvC scope cl Ca X.env) fp) el (tSem X.K W00 fun E ρ S Q => wpE C E elt ρ S Q) := fun s H Ca cl fp => (okE (Kb s H Ca cl fp) h6).pe
            refine PS.imp (ps_setLc o.calm hNd hNi hloc (by rw [swaps_lc, hb]) hI ok k1 k2 k3 hset) fun D σ H ⟨ρ, S, D0, E0, rl, rs, hw, cn, cr, ce⟩ => ?_
            refine se_lc (W := W) (own := ownP N own) o.calm hNd hI ok k1 k2 k3 hset hsl σ H _ ?_
            rw [ownP_snd]
            exact ⟨ρ, S, fun acc S2 => ∀ p, S2 p = none → D0.nx (ρ.set i (some (.ref p))) (S2.upd p (.lst acc)), E0, rl, rs, hw, fun ds S' p xs H' hq e r rs' hp hS h0 =>
              cn _ _ _ _ (hq p hS) ⟨e.tup, e.dom, fun a h1 h2 => Store.upd_none (fun z => h1 (by rw [z]; exact h0)) (e.new a h1 h2), e.frm⟩ ((rl.ext e.tup).set (.ref p) i) (rs'.add ⟨xs, hp, r⟩), ce⟩
          · cases hv
        | _ => simp [chkE] at hv
      · refine plain ?_
        rw [swaps_lc, Bool.eq_false_iff.mpr hb]
    | _ => exact (hl rfl).elim
mutual
theorem okS : ∀ {s : Sx} {W : WX} {X : Cx} {sc : Scope} {st : Stmt}, OkX C W X sc N true → chkS N s sc st = true → PS X st (sSem X.K W fun E ρ S D => wpS C E s ρ S D)
  | .set tg e, W, X, sc, st, o, h => by
    unfold chkS at h
    split at h
    · rename_i t v pos
      simp only [Bool.and_eq_true] at h
      obtain ⟨⟨h1, h2⟩, h3⟩ := h
      cases tg with
      | name i =>
        have h1' := h1
        unfold chkT at h1'
        split at h1'
        · exact ss_setN o h1 h2
        · cases h1'
      | tup ts =>
        have h1' := h1
        unfold chkT at h1'
        split at h1'
        · rename_i es k pos'
          simp only [Bool.and_eq_true, Option.isNone_iff_eq_none, Bool.not_eq_true'] at h3
          refine ss_set (okE o h2).pe (okT o h1) (by rw [sole_of]; exact swap_of (plain_of_chk h2) h3.1 _ _ _) ?_ rfl
          have h4 := h3.2
          cases v <;> first | rfl | (simp [isTupE] at h4; done)
        · cases h1'
    · cases h
  | .seti o' i e, W, X, sc, st, o, h => by
    unfold chkS at h
    split at h
    · rename_i ob ix tp v pos
      simp only [Bool.and_eq_true, Option.isNone_iff_eq_none] at h
      obtain ⟨⟨⟨h0, h1⟩, h2⟩, h3⟩ := h
      have hp := plain_of_chk h3
      refine ss_seti o.hu1 (okE o h1).pe (okE o h2).pe (okE o h3).pe (fun w => ?_) (by rw [sole_of]; exact swap_of (plain_of_chk h1) h0 _ _ _) ?_
      · cases ix <;> first | rfl | cases hp
      · cases v <;> rfl
    · cases h
  | .aug i o' e, W, X, sc, st, o, h => by
    unfold chkS at h
    split at h
    · rename_i x p op v pos
      simp only [Bool.and_eq_true, decide_eq_true_eq] at h
      obtain ⟨⟨⟨⟨h1, h2⟩, rfl⟩, h3⟩, h4⟩ := h
      refine ss_aug (by rw [o.eN]; exact o.nd) (by rw [o.eN]; exact h1) (by rw [o.eS]; exact (locB_ok h2).1) (okE o h4).pe ?_ (.inl (o.fnt rfl x))
      cases o' <;> first | exact True.intro | cases h3
    · cases h
  | .ex e, W, X, sc, st, o, h => by
    unfold chkS at h
    split at h
    · simp only [Bool.and_eq_true, Option.isNone_iff_eq_none] at h
      exact ss_ex (okE o h.2).pe (swap_of (plain_of_chk h.2) h.1 _ _ _)
    · cases h
  | .ret e, W, X, sc, st, o, h => by
    unfold chkS at h
    split at h
    · exact ss_ret (okE o h).pe
    · cases h
  | .retN, W, X, sc, st, o, h => by
    unfold chkS at h
    split at h
    · exact ss_retN
    · cases h
  | .iff c a b, W, X, sc, st, o, h => by
    unfold chkS at h
    split at h
    · simp only [Bool.and_eq_true] at h
      obtain ⟨⟨⟨h0, h1⟩, h2⟩, h3⟩ := h
      exact ss_if ((okE o h1).pt h0) (okSs o h2) (okSs o h3)
    · cases h
  | .whl c b, W, X, sc, st, o, h => by
    unfold chkS at h
    split at h
    · simp only [Bool.and_eq_true] at h
      obtain ⟨⟨h0, h1⟩, h2⟩ := h
      exact ss_while o.po ((okE o h1).pt h0) (okSs o h2)
    · cases h
  | .for_ tg it b, W, X, sc, st, o, h => by
    unfold chkS at h
    split at h
    · simp only [Bool.and_eq_true] at h
      obtain ⟨⟨h0, h1⟩, h2⟩ := h
      exact ss_for o.po o.calm (okI o h1) (okT o h0) (okSs o h2) (noset_of (chkI_plain h1) _)
    · cases h
  | .pass, W, X, sc, st, o, h => by
    unfold chkS at h
    split at h
    · exact ss_pass
    · cases h
  | .dead, W, X, sc, st, o, h => ⟨fun _ _ _ _ _ _ ⟨_, _, _, _, _, _, hw, _⟩ => hw.elim⟩
  | .raise x, W, X, sc, st, o, h => by
    unfold chkS at h
    split at h
    · simp only [Bool.and_eq_true, decide_eq_true_eq] at h
      obtain ⟨⟨rfl, h1⟩, h2⟩ := h
      exact ss_raise o h1 h2
    · cases h
  | .tryAs b x i hx, W, X, sc, st, o, h => by
    unfold chkS at h
    split at h
    · simp only [Bool.and_eq_true, decide_eq_true_eq] at h
      obtain ⟨⟨⟨⟨⟨⟨rfl, h1⟩, h2⟩, h3⟩, h4⟩, h5⟩, h6⟩ := h
      exact ss_tryAs o (fun o' => okSs o' h5) h1 h2 h3 h4 h6
    · cases h
theorem okSs : ∀ {ss : Sxs} {W : WX} {X : Cx} {sc : Scope} {sts : List Stmt}, OkX C W X sc N true → chkSs N ss sc sts = true → PSs X sts (sSem X.K W fun E ρ S D => wpSs C E ss ρ S D)
  | .nil, W, X, sc, st, o, h => by
    unfold chkSs at h
    split at h
    · exact ss_nil
    · cases h
  | .cons s ss, W, X, sc, st, o, h => by
    unfold chkSs at h
    split at h
    · simp only [Bool.and_eq_true] at h
      exact PSs.imp (ss_cons (okS o h.1) (okSs o h.2)) fun D σ H q => q
    · cases h
end
end

/-! ### defs -/
/-- what stands around a def, for all defs at once -/
structure Around' (P : Program) (w : World) (K : PySem.W.Frag) (mg : Str → Option Value) (base : Heap) (C : Env') (lv : Nat) : Prop where
  fn : ∀ x sp, C.fn x = some sp → ∃ f fd ps, FnOk P w K mg base (L2.CX P w) lv f fd ps (lift K sp) ∧ mg x = some (.ref f) ∧ PySem.W.keepIn K (.ref f) = true ∧ Binds K fd ps []
  gl : ∀ x d, C.gl x = some d → ∃ v u, mg x = some u ∧ RelV v u ∧ ∀ H, RepV K H v d
  bt : ∀ x, x ∈ btNames → mg x = none
  xf : XF K mg C
def Sub (S S' : Store) : Prop := ∀ a o, S a = some o → S' a = some o
theorem Sub.refl (S : Store) : Sub S S := fun _ _ h => h
theorem Sub.trans {S S1 S2 : Store} (a : Sub S S1) (b : Sub S1 S2) : Sub S S2 := fun x o h => b x o (a x o h)
theorem Sub.upd {S : Store} {p : Addr} {o : Ob} (h : S p = none) : Sub S (S.upd p o) := fun a u e => by
  rw [Store.upd_ne (fun z => by subst z; rw [h] at e; cases e)]; exact e
/-- a def's check: names, parameters, the text -/
def chkD (N ps : List Str) (st : Stmt) (body : Sxs) : Bool :=
  decide N.Nodup && decide (N.take ps.length = ps) && (match (defScope st).kind with | .function => true | _ => false) && !(defScope st).isCoroutine && !(defScope st).isGenerator &&
    ps.all (fun x => match (defScope st).names.lookup x with | some .local => true | some .cell => true | _ => false) && (defScope st).names.all (fun y => match y.2 with | .free => false | _ => true) && chkSs N body (defScope st) (defBody st)
theorem chkD_scope {N ps : List Str} {st : Stmt} {body : Sxs} (h : chkD N ps st body = true) : FnScope N ps (defScope st) ∧ chkSs N body (defScope st) (defBody st) = true := by
  unfold chkD at h
  simp only [Bool.and_eq_true, decide_eq_true_eq, Bool.not_eq_true', List.all_eq_true] at h
  obtain ⟨⟨⟨⟨⟨⟨⟨h1, h2⟩, h3⟩, h4⟩, h5⟩, h6⟩, h7⟩, h8⟩ := h
  refine ⟨⟨?_, h4, h5, h1, h2, fun x hx => ?_, fun y hy => ?_⟩, h8⟩
  · split at h3
    · assumption
    · cases h3
  · have := h6 x hx
    split at this
    · exact .inl (by assumption)
    · exact .inr (by assumption)
    · cases this
  · have := h7 y hy
    intro z
    rw [z] at this
    cases this
def startR (N : List Str) (ds : List D) : Rho := ds.map some ++ List.replicate (N.length - ds.length) none
theorem startR_ok {K : PySem.W.Frag} {H : Hp} {N : List Str} {vs : List V} {ds : List D} (r : RepVs K H vs ds) : RepL K H (L2.start N vs) (startR N ds) := by
  have hl := r.length
  refine ⟨by unfold L2.start startR; simp [hl], fun i d h => ?_⟩
  unfold startR at h
  unfold L2.start
  by_cases hi : i < ds.length
  · rw [List.getElem?_append_left (by simpa using hi), List.getElem?_map] at h
    rw [List.getElem?_append_left (by simp; omega), List.getElem?_map]
    cases e : ds[i]? with
    | none => rw [e] at h; cases h
    | some d' =>
      rw [e] at h
      cases h
      obtain ⟨v, h1, h2⟩ := r.get e
      exact ⟨v, by rw [h1]; rfl, h2⟩
  · rw [List.getElem?_append_right (by simp; omega)] at h
    rw [List.getElem?_replicate] at h
    split at h <;> cases h
theorem RepS.sub {K : PySem.W.Frag} {H : Hp} {S S' : Store} (s : Sub S S') (r : RepS K H S') : RepS K H S := fun a o h => r a o (s a o h)
theorem Ext.sub {K : PySem.W.Frag} {H H' : Hp} {S S1 S' : Store} (s : Sub S1 S') (e : Ext K H S H' S') : Ext K H S H' S1 :=
  { tup := e.tup, dom := e.dom, frm := e.frm
    new := fun a h1 h2 => by
      have q := e.new a h1 h2
      cases h : S1 a with
      | none => rfl
      | some o => rw [s a o h] at q; cases q }
/-- THE RULE: a def keeps its promise -/
theorem ok_def {P : Program} {w : World} {K : PySem.W.Frag} {mg : Str → Option Value} {base : Heap} {C : Env'} {lv : Nat} {x qual : Str} {st : Stmt} {f : Addr} {fd : FuncData} {N ps : List Str} {body : Sxs} {sp : FSp}
    (A : Around' P w K mg base C lv) (F : Fun K x qual st f fd) (hc : chkD N ps st body = true) (har : sp.ar = ps.length)
    (hb : ∀ ds S Q E, ds.length = sp.ar → sp.run ds S Q E → wpSs C (fun c g _ S' => ∃ S'', Sub S'' S' ∧ E c g S'') body (startR N ds) S ⟨fun _ S' => ∃ S'', Sub S'' S' ∧ Q .non S'', fun d S' => ∃ S'', Sub S'' S' ∧ Q d S''⟩) :
    FnOk P w K mg base (L2.CX P w) (lv + 1) f fd ps (lift K sp) := by
  obtain ⟨hs, hk⟩ := chkD_scope hc
  refine F.okX hs (fun vs H Q E ⟨ds, S, Q0, E0, h1, h2, _⟩ => by rw [h2.length, h1, har]) (fun cdv Ar outer s H vs Q E hr ⟨ds, S, Q0, E0, h1, h2, h3, h4, h5, h6⟩ => ?_)
  have o : OkX C (fun cls d _ H => E cls d H) (cxOf (L2.CX P w) P w K mg base N qual (defScope st) f cdv Ar outer s H E) (defScope st) N true :=
    { nd := hs.nd, kd := hs.kind, eN := rfl, eS := rfl, calm := rfl, un := by have := hr.un; show (Ar.deeper _).units + 200 < cLine; omega
      tk := takes_of rfl rfl rfl rfl
      po := passes_of rfl
      fnt := fun _ _ => rfl
      tp := fun _ => ⟨rfl, rfl⟩
      fn := fun x sp hx => let ⟨g, gd, ps', F', m1, m2, m3⟩ := A.fn x sp hx; ⟨g, gd, ps', lv, F', hr, m1, m2, m3⟩
      gl := A.gl
      bt := A.bt
      xf := A.xf }
  refine ⟨_, okSs o hk, startR N ds, S, _, _, startR_ok h2, h3, hb ds S Q0 E0 h1 h4, fun ρ' S' σ' H' ⟨S'', hs', q⟩ e _ rs' => ?_, fun d S' v H' ⟨S'', hs', q⟩ e r rs' => ?_, fun c g ρ' S' od σ' H' ⟨S'', hs', q⟩ e _ rs' rx => ?_⟩
  · exact h5 .non S'' .non H' q (e.sub hs') .non (rs'.sub hs')
  · exact h5 d S'' v H' q (e.sub hs') r (rs'.sub hs')
  · exact h6 c g S'' od H' q (e.sub hs') (rs'.sub hs') rx
end Fel
end

section
set_option maxHeartbeats 8000000
/-! Lemmas by which a wp is reckoned. -/
namespace Fel
open PySem L2
def ieq (i j : Int) : Bool := decide (i = j)
def ilt (i j : Int) : Bool := decide (i < j)
def ile (i j : Int) : Bool := decide (i ≤ j)
theorem ieq_t (i j : Int) : (ieq i j = true) = (i = j) := by simp [ieq]
theorem ilt_t (i j : Int) : (ilt i j = true) = (i < j) := by simp [ilt]
theorem ile_t (i j : Int) : (ile i j = true) = (i ≤ j) := by simp [ile]
theorem ieq_f (i j : Int) : ((!ieq i j) = true) = ¬ (i = j) := by simp [ieq]
theorem ilt_f (i j : Int) : ((!ilt i j) = true) = ¬ (i < j) := by simp [ilt]
theorem ile_f (i j : Int) : ((!ile i j) = true) = ¬ (i ≤ j) := by simp [ile]
section
variable {S : Store} {a b : Addr} {ds es : List D} {kvs : List (D × D)}
theorem lenW_tup (k : Nat → Prop) : lenW S (.tup ds) k = k ds.length := rfl
theorem lenW_lst (h : S a = some (.lst ds)) (k : Nat → Prop) : lenW S (.ref a) k = k ds.length := by simp only [lenW, h]
theorem lenW_dic (h : S a = some (.dic kvs)) (k : Nat → Prop) : lenW S (.ref a) k = k kvs.length := by simp only [lenW, h]
theorem lenW_lk (k : Nat → Prop) : lenW S (.lk ds) k = k ds.length := rfl
theorem seqW_lk (k : List D → (Store → Prop) → Prop) : seqW S (.lk ds) k = k ds fun _ => True := rfl
theorem lstW_lk (k : List D → (Store → Prop) → Prop) : lstW S (.lk ds) k = k ds fun _ => True := rfl
theorem listW_lk (k : List D → Prop) : listW S (.lk ds) k = k ds := rfl
theorem slcW_lk (lo hi : Option Int) (Q : K1) : slcW S (.lk ds) lo hi Q = ∀ p, S p = none → Q (.ref p) (S.upd p (.lst (cutD ds lo hi))) := rfl
theorem slcW_tup (lo hi : Option Int) (Q : K1) : slcW S (.tup ds) lo hi Q = Q (.tup (cutD ds lo hi)) S := rfl
theorem slcW_lst (h : S a = some (.lst ds)) (lo hi : Option Int) (Q : K1) : slcW S (.ref a) lo hi Q = ∀ p, S p = none → Q (.ref p) (S.upd p (.lst (cutD ds lo hi))) := by simp only [slcW, h]
theorem seqW_tup (k : List D → (Store → Prop) → Prop) : seqW S (.tup ds) k = k ds fun _ => True := rfl
theorem seqW_lst (h : S a = some (.lst ds)) (k : List D → (Store → Prop) → Prop) : seqW S (.ref a) k = k ds fun S' => S' a = some (.lst ds) := by simp only [seqW, h]
theorem lstW_lst (h : S a = some (.lst ds)) (k : List D → (Store → Prop) → Prop) : lstW S (.ref a) k = k ds fun S' => S' a = some (.lst ds) := by simp only [lstW, h]
theorem listW_tup (k : List D → Prop) : listW S (.tup ds) k = k ds := rfl
theorem listW_lst (h : S a = some (.lst ds)) (k : List D → Prop) : listW S (.ref a) k = k ds := by simp only [listW, h]
theorem listW_dic (h : S a = some (.dic kvs)) (k : List D → Prop) : listW S (.ref a) k = k (kvs.map (·.1)) := by simp only [listW, h]
theorem tupW_tup (k : List D → Prop) : tupW S (.tup ds) k = k ds := rfl
theorem tupW_lst (h : S a = some (.lst ds)) (k : List D → Prop) : tupW S (.ref a) k = k ds := by simp only [tupW, h]
theorem onL_lst (h : S a = some (.lst ds)) (k : List D → Prop) : onL S (.ref a) k = k ds := by simp only [onL, h]
theorem atL_lst (h : S a = some (.lst ds)) (k : Addr → List D → Prop) : atL S (.ref a) k = k a ds := by simp only [atL, h]
theorem onI_int (i : Int) (k : Int → Prop) : onI (.int i) k = k i := rfl
theorem onB_bl (i : Bool) (k : Bool → Prop) : onB (.bl i) k = k i := rfl
theorem intW_int (i : Int) (k : Int → Prop) : intW (.int i) k = k i := rfl
theorem intW_bl (i : Bool) (k : Int → Prop) : intW (.bl i) k = k (if i then 1 else 0) := rfl
theorem on1_one (d : D) (k : D → Prop) : on1 [d] k = k d := rfl
theorem on2_two (d e : D) (k : D → D → Prop) : on2 [d, e] k = k d e := rfl
theorem zipW_tup (k : List D → (Store → Prop) → Prop) : zipW S (.tup ds) (.tup es) k = k (zipD ds es) fun _ => True := rfl
theorem zipW_lst (h : S a = some (.lst ds)) (h2 : S b = some (.lst es)) (k : List D → (Store → Prop) → Prop) : zipW S (.ref a) (.ref b) k = k (zipD ds es) fun S' => S' a = some (.lst ds) ∧ S' b = some (.lst es) := by simp only [zipW, h, h2]
theorem opS_addI (i j : Int) (Q : K1) : opS .add (.int i) (.int j) S Q = Q (.int (i + j)) S := rfl
theorem opS_subI (i j : Int) (Q : K1) : opS .sub (.int i) (.int j) S Q = Q (.int (i - j)) S := rfl
theorem opS_mulI (i j : Int) (Q : K1) : opS .mul (.int i) (.int j) S Q = (IntMulOk i j ∧ Q (.int (i * j)) S) := rfl
theorem opS_fdivI (i j : Int) (Q : K1) : opS .fdiv (.int i) (.int j) S Q = (CDivW i j ∧ Q (.int (i / j)) S) := rfl
theorem opS_modI (i j : Int) (Q : K1) : opS .mod (.int i) (.int j) S Q = (0 < j ∧ Q (.int (i % j)) S) := rfl
theorem opS_powI (i j : Int) (Q : K1) : opS .pow (.int i) (.int j) S Q = (CPow i j ∧ Q (.int (i ^ j.toNat)) S) := rfl
theorem opS_addT (Q : K1) : opS .add (.tup ds) (.tup es) S Q = (ds.length + es.length ≤ sizeLine ∧ Q (.tup (ds ++ es)) S) := rfl
theorem opS_addS (x y : Str) (Q : K1) : opS .add (.str x) (.str y) S Q = (x.length + y.length ≤ sizeLine ∧ Q (.str (x ++ y)) S) := rfl
theorem opS_addL (h : S a = some (.lst ds)) (h2 : S b = some (.lst es)) (Q : K1) : opS .add (.ref a) (.ref b) S Q = (ds.length + es.length ≤ sizeLine ∧ ∀ p, S p = none → Q (.ref p) (S.upd p (.lst (ds ++ es)))) := by simp only [opS, h, h2]
theorem opS_mulL (h : S a = some (.lst ds)) (k : Int) (Q : K1) : opS .mul (.ref a) (.int k) S Q = (-(2 ^ 63) ≤ k ∧ k < 2 ^ 63 ∧ ds.length * k.toNat ≤ sizeLine ∧ ∀ p, S p = none → Q (.ref p) (S.upd p (.lst (List.replicate k.toNat ds).flatten))) := by simp only [opS, h]
theorem opW_addI (i j : Int) (Q : D → Prop) : opW .add (.int i) (.int j) Q = Q (.int (i + j)) := rfl
theorem opW_subI (i j : Int) (Q : D → Prop) : opW .sub (.int i) (.int j) Q = Q (.int (i - j)) := rfl
theorem opW_mulI (i j : Int) (Q : D → Prop) : opW .mul (.int i) (.int j) Q = (IntMulOk i j ∧ Q (.int (i * j))) := rfl
theorem opW_addS (x y : Str) (Q : D → Prop) : opW .add (.str x) (.str y) Q = (x.length + y.length ≤ sizeLine ∧ Q (.str (x ++ y))) := rfl
theorem ltW_int (i j : Int) (k : Bool → Prop) : ltW (.int i) (.int j) k = k (ilt i j) := rfl
theorem ltW_str (i j : Str) (k : Bool → Prop) : ltW (.str i) (.str j) k = k (decide (i.cps.toList < j.cps.toList)) := rfl
theorem cm_eq (x y : D) (k : Bool → Prop) : cmW .eq S x y k = eqW S x y k := rfl
theorem cm_ne (x y : D) (k : Bool → Prop) : cmW .ne S x y k = eqW S x y fun b => k (!b) := rfl
theorem cm_lt (x y : D) (k : Bool → Prop) : cmW .lt S x y k = ltW x y k := rfl
theorem cm_gt (i j : Int) (k : Bool → Prop) : cmW .gt S (.int i) (.int j) k = k (ilt j i) := rfl
theorem cm_le (i j : Int) (k : Bool → Prop) : cmW .le S (.int i) (.int j) k = k (ile i j) := rfl
theorem cm_ge (i j : Int) (k : Bool → Prop) : cmW .ge S (.int i) (.int j) k = k (ile j i) := rfl
theorem cm_in (x y : D) (k : Bool → Prop) : cmW .in_ S x y k = inW S x y k := rfl
theorem cm_ni (x y : D) (k : Bool → Prop) : cmW .ni S x y k = inW S x y fun b => k (!b) := rfl
theorem cm_is (x : D) (k : Bool → Prop) : cmW .is_ S x .non k = k (decide (x = .non)) := by simp [cmW]
theorem cm_isnt (x : D) (k : Bool → Prop) : cmW .isnt S x .non k = k (!decide (x = .non)) := by simp [cmW]
theorem eqW_int (i j : Int) (k : Bool → Prop) : eqW S (.int i) (.int j) k = k (ieq i j) := by
  unfold ieq
  simp only [eqW, D.scal, scEq, and_self, if_true, D.int.injEq]
theorem eqW_str (i j : Str) (k : Bool → Prop) : eqW S (.str i) (.str j) k = k (decide (i = j)) := by
  simp only [eqW, D.scal, scEq, and_self, if_true, D.str.injEq]
theorem eqW_bl (i j : Bool) (k : Bool → Prop) : eqW S (.bl i) (.bl j) k = k (decide (i = j)) := by
  simp only [eqW, D.scal, scEq, and_self, if_true, D.bl.injEq]
/-! places -/
theorem atI_0 {α : Type} (x : α) (xs : List α) : atI (x :: xs) 0 = some x := by simp [atI, ixN]
theorem atI_nn {α : Type} {xs : List α} {i : Int} (h0 : 0 ≤ i) : atI xs i = xs[i.toNat]? := by
  unfold atI ixN
  rw [if_pos h0]
  split
  · rfl
  · rw [List.getElem?_eq_none (by omega)]; rfl
theorem atI_1 {α : Type} (x y : α) (xs : List α) : atI (x :: y :: xs) 1 = some y := by rw [atI_nn (by omega)]; rfl
theorem atI_2 {α : Type} (x y z : α) (xs : List α) : atI (x :: y :: z :: xs) 2 = some z := by rw [atI_nn (by omega)]; rfl
theorem ixN_nn {n : Nat} {i : Int} (h0 : 0 ≤ i) (h : i < n) : ixN n i = some i.toNat := by
  unfold ixN
  rw [if_pos h0, if_pos h]
def optQ (o : Option D) (Q : D → Prop) : Prop := match o with
  | some d => Q d
  | none => False
theorem optQ_some (d : D) (Q : D → Prop) : optQ (some d) Q = Q d := rfl
theorem idxW_tup (i : Int) (Q : D → Prop) : idxW S (.tup ds) (.int i) Q = optQ (atI ds i) Q := by cases e : atI ds i <;> simp [idxW, optQ, e]
theorem idxW_lk (i : Int) (Q : D → Prop) : idxW S (.lk ds) (.int i) Q = optQ (atI ds i) Q := by cases e : atI ds i <;> simp [idxW, optQ, e]
theorem idxW_lst (h : S a = some (.lst ds)) (i : Int) (Q : D → Prop) : idxW S (.ref a) (.int i) Q = optQ (atI ds i) Q := by cases e : atI ds i <;> simp [idxW, h, optQ, e]
theorem idxW_dic (h : S a = some (.dic kvs)) (k : D) (Q : D → Prop) : idxW S (.ref a) k Q = (k.isKey = true ∧ optQ (valD kvs k) Q) := by cases e : valD kvs k <;> simp [idxW, h, optQ, e]
theorem setiW_lst (h : S a = some (.lst ds)) {i : Int} {j : Nat} (hj : ixN ds.length i = some j) (v : D) (k : Store → Prop) : setiW S (.ref a) (.int i) v k = k (S.upd a (.lst (ds.set j v))) := by simp only [setiW, h, hj]
theorem setiW_0 {x : D} (h : S a = some (.lst (x :: ds))) (v : D) (k : Store → Prop) : setiW S (.ref a) (.int 0) v k = k (S.upd a (.lst (v :: ds))) := by
  rw [setiW_lst h (ixN_nn (Int.le_refl 0) (by simp only [List.length_cons]; omega))]; rfl
theorem setiW_1 {x y : D} (h : S a = some (.lst (x :: y :: ds))) (v : D) (k : Store → Prop) : setiW S (.ref a) (.int 1) v k = k (S.upd a (.lst (x :: v :: ds))) := by
  rw [setiW_lst h (ixN_nn (by omega) (by simp only [List.length_cons]; omega))]; rfl
theorem setiW_dic (h : S a = some (.dic kvs)) (i v : D) (k : Store → Prop) : setiW S (.ref a) i v k = (i.isKey = true ∧ kvs.length < sizeLine ∧ k (S.upd a (.dic (putD kvs i v)))) := by simp only [setiW, h]
theorem bindT_name (i : Nat) (d : D) (ρ : Rho) (k : Rho → Prop) : bindT (.name i) d ρ k = k (ρ.set i (some d)) := rfl
theorem bindT_tup (ts : Tgs) (ρ : Rho) (k : Rho → Prop) : bindT (.tup ts) (.tup ds) ρ k = bindTs ts ds ρ k := rfl
theorem bindTs_nil (ρ : Rho) (k : Rho → Prop) : bindTs .nil [] ρ k = k ρ := by simp [bindTs]
theorem bindTs_cons (t : Tg) (ts : Tgs) (d : D) (ρ : Rho) (k : Rho → Prop) : bindTs (.cons t ts) (d :: ds) ρ k = bindT t d ρ fun ρ' => bindTs ts ds ρ' k := rfl
end
section
variable {bd : D → Rho → (Rho → Prop) → Prop} {body : Rho → Store → KR → Prop} {st : Store → Prop} {x : D} {xs : List D} {ρ : Rho} {S : Store} {k : KR}
theorem wFor_nil : wFor bd body st [] ρ S k = (st S ∧ k ρ S) := rfl
theorem wFor_cons : wFor bd body st (x :: xs) ρ S k = (st S ∧ bd x ρ fun ρ1 => body ρ1 S fun ρ2 S2 => wFor bd body st xs ρ2 S2 k) := rfl
theorem zipD_cons (x y : D) (xs ys : List D) : zipD (x :: xs) (y :: ys) = .tup [x, y] :: zipD xs ys := rfl
theorem zipD_nil (ys : List D) : zipD [] ys = [] := rfl
theorem zipD_nil2 (xs : List D) : zipD xs [] = [] := by cases xs <;> rfl
end
section
variable {bd : D → Rho → (Rho → Prop) → Prop} {test : Rho → Store → (Bool → Store → Prop) → Prop} {elt : Rho → Store → K1 → Prop} {st : Store → Prop} {ρ : Rho}
/-- a comprehension whose turns are known and leave the store -/
theorem wLc_pure {α : Type} (enc : α → D) (t : α → Bool) (f : α → D) {S : Store} (hs : st S) : ∀ (xs : List α), (∀ x ∈ xs, ∀ (k1 : K1) (k2 : Store → Prop), (if t x = true then k1 (f x) S else k2 S) → bd (enc x) ρ fun ρ1 => test ρ1 S fun b S1 => if b = true then elt ρ1 S1 k1 else k2 S1) →
    ∀ (acc : List D) (k : List D → Store → Prop), k (acc ++ (xs.filter t).map f) S → wLc bd test elt st ρ (xs.map enc) S acc k
  | [], _, acc, k, hk => ⟨hs, by simpa using hk⟩
  | x :: xs, h, acc, k, hk => by
    refine ⟨hs, h x List.mem_cons_self _ _ ?_⟩
    have ih := wLc_pure enc t f hs xs (fun y hy => h y (List.mem_cons_of_mem _ hy))
    by_cases ht : t x = true
    · rw [if_pos ht]
      refine ih _ k ?_
      simpa [List.filter_cons, ht] using hk
    · rw [if_neg ht]
      refine ih _ k ?_
      simpa [List.filter_cons, ht] using hk
/-- .. where all are kept -/
theorem wLc_map {α : Type} (enc : α → D) (f : α → D) {S : Store} (hs : st S) : ∀ (xs : List α), (∀ x ∈ xs, ∀ (k1 : K1) (k2 : Store → Prop), k1 (f x) S → bd (enc x) ρ fun ρ1 => test ρ1 S fun b S1 => if b = true then elt ρ1 S1 k1 else k2 S1) →
    ∀ (acc : List D) (k : List D → Store → Prop), k (acc ++ xs.map f) S → wLc bd test elt st ρ (xs.map enc) S acc k
  | [], _, acc, k, hk => ⟨hs, by simpa using hk⟩
  | x :: xs, h, acc, k, hk => ⟨hs, h x List.mem_cons_self _ _ (wLc_map enc f hs xs (fun y hy => h y (List.mem_cons_of_mem _ hy)) _ k (by simpa using hk))⟩
end
end Fel
namespace Fel
open PySem L2
/-- a body runs well: the wish of its end may forget -/
def Wp (C : Env') (b : Sxs) (N : List Str) (ds : List D) (S : Store) (Q : K1) (E : Addr → Option D → Store → Prop) : Prop :=
  wpSs C (fun c g _ S' => ∃ S'', Sub S'' S' ∧ E c g S'') b (startR N ds) S ⟨fun _ S' => ∃ S'', Sub S'' S' ∧ Q .non S'', fun d S' => ∃ S'', Sub S'' S' ∧ Q d S''⟩
theorem Wp.ret {S : Store} {Q : K1} {d : D} (q : Q d S) : ∃ S'', Sub S'' S ∧ Q d S'' := ⟨S, Sub.refl S, q⟩
/-- a body keeps a promise -/
def Keeps (C : Env') (b : Sxs) (N : List Str) (sp : FSp) : Prop := ∀ ds S Q E, ds.length = sp.ar → sp.run ds S Q E → Wp C b N ds S Q E
section
variable {P : Program} {w : World} {K : PySem.W.Frag} {mg : Str → Option Value} {base : Heap} {C : Env'} {lv : Nat} {x qual : Str} {st : Stmt} {f : Addr} {fd : FuncData} {N ps : List Str} {body : Sxs} {sp : FSp}
def Env'.add (C : Env') (x : Str) (sp : FSp) : Env' := { C with fn := fun y => if y = x then some sp else C.fn y }
theorem Env'.add_same : (C.add x sp).fn x = some sp := if_pos rfl
theorem Env'.add_ne {y : Str} (h : y ≠ x) : (C.add x sp).fn y = C.fn y := if_neg h
theorem Env'.add_gl : (C.add x sp).gl = C.gl := rfl
theorem XF.add {K : PySem.W.Frag} {mg : Str → Option Value} {C : Env'} {x : Str} {sp : FSp} (h : XF K mg C) : XF K mg (C.add x sp) := ⟨h.ec, h.is⟩
theorem Around'.mono (A : Around' P w K mg base C lv) {lv' : Nat} (h : lv ≤ lv') : Around' P w K mg base C lv' :=
  ⟨fun x sp hx => let ⟨f, fd, ps, F, r⟩ := A.fn x sp hx; ⟨f, fd, ps, F.mono h, r⟩, A.gl, A.bt, A.xf⟩
theorem Around'.add (A : Around' P w K mg base C lv) (F : Fun K x qual st f fd) (hm : mg x = some (.ref f)) (hb : Binds K fd ps []) (G : FnOk P w K mg base (L2.CX P w) lv f fd ps (lift K sp)) : Around' P w K mg base (C.add x sp) lv := by
  refine ⟨fun y sp' hy => ?_, A.gl, A.bt, A.xf.add⟩
  unfold Env'.add at hy
  simp only at hy
  split at hy
  · rename_i e
    cases hy
    subst e
    exact ⟨f, fd, ps, G, hm, F.kp, hb⟩
  · exact A.fn y sp' hy
/-- a def that calls itself -/
theorem ok_rec (A : Around' P w K mg base C lv) (F : Fun K x qual st f fd) (hm : mg x = some (.ref f)) (hb : Binds K fd ps []) (hc : chkD N ps st body = true) (sp : Nat → FSp) (har : ∀ n, (sp n).ar = ps.length) (vac : ∀ ds S Q E, ¬ (sp 0).run ds S Q E)
    (step : ∀ n, Keeps (C.add x (sp n)) body N (sp (n + 1))) : ∀ n, FnOk P w K mg base (L2.CX P w) (lv + n) f fd ps (lift K (sp n))
  | 0 => ⟨fun vs H Q E ⟨ds, S, Q0, E0, _, _, _, h, _⟩ => (vac _ _ _ _ h).elim, fun A' outer s H args us vs Q E _ _ _ _ ⟨ds, S, Q0, E0, _, _, _, h, _⟩ => (vac _ _ _ _ h).elim⟩
  | n + 1 => ok_def ((A.mono (Nat.le_add_right lv n)).add F hm hb (ok_rec A F hm hb hc sp har vac step n)) F hc (har (n + 1)) (step n)
theorem ok_one (A : Around' P w K mg base C lv) (F : Fun K x qual st f fd) (hc : chkD N ps st body = true) (har : sp.ar = ps.length) (h : Keeps C body N sp) : FnOk P w K mg base (L2.CX P w) (lv + 1) f fd ps (lift K sp) := ok_def A F hc har h
end
end Fel
end

section
set_option maxHeartbeats 8000000
/-! Ladders as a type; as data. -/
namespace Fel
open PySem L2
/-- a ladder: none, or a pair and the rest -/
inductive Lad where
  | nil | cons (e : Lad) (m : Int) (r : Lad)
  deriving DecidableEq
namespace Lad
def enc : Lad → List D
  | nil => []
  | cons e m r => .tup [.tup e.enc, .int m] :: r.enc
def d (a : Lad) : D := .tup a.enc
def dep : Lad → Nat
  | nil => 0
  | cons e _ r => max (e.dep + 1) r.dep
def len : Lad → Nat
  | nil => 0
  | cons _ _ r => r.len + 1
def less : Lad → Lad → Bool
  | nil, nil => false
  | nil, cons .. => true
  | cons .., nil => false
  | cons e m r, cons e' m' r' => if e = e' then (if m = m' then less r r' else decide (m < m')) else less e e'
theorem enc_len : ∀ a : Lad, a.enc.length = a.len
  | nil => rfl
  | cons _ _ r => by simp [enc, len, enc_len r]
theorem pure_enc : ∀ a : Lad, pures a.enc = true
  | nil => rfl
  | cons e m r => by simp [enc, pures, D.pure, pure_enc e, pure_enc r]
theorem lay_enc : ∀ a : Lad, PyData.canLayAll0 (pys a.enc) = true
  | nil => rfl
  | cons e m r => by simp [enc, pys, D.py, PyData.canLayAll0, PyData.canLay0, lay_enc e, lay_enc r]
theorem eqv_enc : ∀ a b : Lad, PyData.eqvAll (pys a.enc) (pys b.enc) = decide (a = b)
  | nil, nil => by simp [enc, pys, PyData.eqvAll]
  | nil, cons _ _ _ => by simp [enc, pys, PyData.eqvAll]
  | cons _ _ _, nil => by simp [enc, pys, PyData.eqvAll]
  | cons e m r, cons e' m' r' => by
    simp only [enc, pys, D.py, PyData.eqvAll, PyData.eqv, eqv_enc e e', eqv_enc r r', cons.injEq, Bool.and_true]
    by_cases h1 : e = e' <;> by_cases h2 : m = m' <;> by_cases h3 : r = r' <;> simp [h1, h2, h3]
theorem dep_enc : ∀ a : Lad, PyData.depthAll (pys a.enc) ≤ 2 * a.dep
  | nil => by simp [enc, pys, PyData.depthAll]
  | cons e m r => by
    have h1 := dep_enc e
    have h2 := dep_enc r
    simp only [enc, pys, D.py, PyData.depthAll, PyData.depth, dep]
    omega
theorem eqW_d {S : Store} (a b : Lad) (h : a.dep ≤ 90) (k : Bool → Prop) : eqW S a.d b.d k = k (decide (a = b)) := by
  have e1 : look S a.d = some (.tuple (pys a.enc)) := by simp [look, d, D.pure, pure_enc, D.py]
  have e2 : look S b.d = some (.tuple (pys b.enc)) := by simp [look, d, D.pure, pure_enc, D.py]
  have e3 : a.d.scal = false := rfl
  unfold eqW
  rw [e3, e1, e2]
  have h1 : (PyData.tuple (pys a.enc)).depth ≤ 190 := by
    have := dep_enc a
    simp only [PyData.depth]
    omega
  simp only [Bool.false_eq_true, false_and, if_false, PyData.canLay0, lay_enc, h1, true_and, PyData.eqv, eqv_enc]
theorem d_nil : (nil : Lad).d = .tup [] := rfl
theorem d_def (a : Lad) : D.tup a.enc = a.d := rfl
theorem eqW_nil {S : Store} (a : Lad) (h : a.dep ≤ 90) (k : Bool → Prop) : eqW S a.d (.tup []) k = k (decide (a = nil)) := eqW_d a nil h k
end Lad
end Fel
end

section
set_option maxHeartbeats 8000000
/-! Lists just written; small sums; ladders as lists of rows. -/
namespace Fel
open PySem L2
section
variable {S : Store} {a b : Addr} {ds es : List D} {kvs : List (D × D)}
theorem lenW_ul (k : Nat → Prop) : lenW (S.upd a (.lst ds)) (.ref a) k = k ds.length := lenW_lst Store.upd_same k
theorem lenW_ud (k : Nat → Prop) : lenW (S.upd a (.dic kvs)) (.ref a) k = k kvs.length := lenW_dic Store.upd_same k
theorem idxW_ul (i : Int) (Q : D → Prop) : idxW (S.upd a (.lst ds)) (.ref a) (.int i) Q = optQ (atI ds i) Q := idxW_lst Store.upd_same i Q
theorem idxW_ud (k : D) (Q : D → Prop) : idxW (S.upd a (.dic kvs)) (.ref a) k Q = (k.isKey = true ∧ optQ (valD kvs k) Q) := idxW_dic Store.upd_same k Q
theorem seqW_ul (k : List D → (Store → Prop) → Prop) : seqW (S.upd a (.lst ds)) (.ref a) k = k ds fun S' => S' a = some (.lst ds) := seqW_lst Store.upd_same k
theorem lstW_ul (k : List D → (Store → Prop) → Prop) : lstW (S.upd a (.lst ds)) (.ref a) k = k ds fun S' => S' a = some (.lst ds) := lstW_lst Store.upd_same k
theorem listW_ul (k : List D → Prop) : listW (S.upd a (.lst ds)) (.ref a) k = k ds := listW_lst Store.upd_same k
theorem listW_ud (k : List D → Prop) : listW (S.upd a (.dic kvs)) (.ref a) k = k (kvs.map (·.1)) := listW_dic Store.upd_same k
theorem tupW_ul (k : List D → Prop) : tupW (S.upd a (.lst ds)) (.ref a) k = k ds := tupW_lst Store.upd_same k
theorem onL_ul (k : List D → Prop) : onL (S.upd a (.lst ds)) (.ref a) k = k ds := onL_lst Store.upd_same k
theorem atL_ul (k : Addr → List D → Prop) : atL (S.upd a (.lst ds)) (.ref a) k = k a ds := atL_lst Store.upd_same k
theorem slcW_ul (lo hi : Option Int) (Q : K1) : slcW (S.upd a (.lst ds)) (.ref a) lo hi Q = ∀ p, (S.upd a (.lst ds)) p = none → Q (.ref p) ((S.upd a (.lst ds)).upd p (.lst (cutD ds lo hi))) := slcW_lst Store.upd_same lo hi Q
theorem setiW_u0 {x : D} (v : D) (k : Store → Prop) : setiW (S.upd a (.lst (x :: ds))) (.ref a) (.int 0) v k = k (S.upd a (.lst (v :: ds))) := by rw [setiW_0 Store.upd_same, Store.upd_upd]
theorem setiW_u1 {x y : D} (v : D) (k : Store → Prop) : setiW (S.upd a (.lst (x :: y :: ds))) (.ref a) (.int 1) v k = k (S.upd a (.lst (x :: v :: ds))) := by rw [setiW_1 Store.upd_same, Store.upd_upd]
theorem upd_none {o : Ob} (h : (S.upd a o) b = none) : b ≠ a ∧ S b = none := by
  unfold Store.upd at h
  split at h
  · cases h
  · exact ⟨by assumption, h⟩
end
theorem blsOf_mk {α : Type} (t : α → Bool) : ∀ xs : List α, blsOf (xs.map fun x => .bl (t x)) = some (xs.map t)
  | [] => rfl
  | x :: xs => by simp [blsOf, blsOf_mk t xs]
theorem intsOf_mk {α : Type} (t : α → Int) : ∀ xs : List α, intsOf (xs.map fun x => .int (t x)) = some (xs.map t)
  | [] => rfl
  | x :: xs => by simp [intsOf, intsOf_mk t xs]
theorem ifp {p a b : Prop} [Decidable p] (h : p) (x : a) : if p then a else b := by rw [if_pos h]; exact x
theorem ifn {p a b : Prop} [Decidable p] (h : ¬ p) (x : b) : if p then a else b := by rw [if_neg h]; exact x
theorem ifc {p a b : Prop} [Decidable p] (h1 : p → a) (h2 : ¬ p → b) : if p then a else b := by by_cases h : p; rw [if_pos h]; exact h1 h; rw [if_neg h]; exact h2 h
theorem cutD_map {α β : Type} (f : α → β) (xs : List α) (lo hi : Option Int) : cutD (xs.map f) lo hi = (cutD xs lo hi).map f := by
  unfold cutD
  simp only [List.length_map, List.map_take, List.map_drop]
theorem sIx_top (n d : Nat) {i : Int} (h : 0 ≤ i) : HT.sIx n d (some i) ≤ i.toNat := by
  show (if i < 0 then (i + (n : Int)).toNat else min i.toNat n) ≤ _
  rw [if_neg (by omega)]
  exact Nat.min_le_left _ _
theorem cutD_len {α : Type} (xs : List α) (lo : Option Int) {i : Int} (h : 0 ≤ i) : (cutD xs lo (some i)).length ≤ i.toNat := by
  unfold cutD
  have := sIx_top xs.length xs.length h
  simp only [List.length_take]
  omega
theorem pairs_of {α : Type} (f : α → D) (xs : List α) : ∀ d ∈ pairs (xs.map f), ∃ (i : Nat) (x : α), d = .tup [.int i, f x] ∧ i < xs.length ∧ x ∈ xs := by
  intro d hd
  unfold pairs at hd
  obtain ⟨⟨d', i⟩, h1, rfl⟩ := List.mem_map.1 hd
  obtain ⟨_, h2, h3⟩ := List.mem_zipIdx h1
  simp only [Nat.zero_add, List.length_map] at h2
  simp only [Nat.sub_zero, List.getElem_map] at h3
  exact ⟨i, xs[i], by rw [h3], h2, List.getElem_mem _⟩
theorem putD_all {kvs : List (D × D)} {k v : D} (P : D × D → Prop) (h : ∀ x ∈ kvs, P x) (h2 : P (k, v)) : ∀ x ∈ putD kvs k v, P x := by
  intro x hx
  unfold putD at hx
  split at hx
  · obtain ⟨y, hy, rfl⟩ := List.mem_map.1 hx
    split
    · rename_i e; rw [e]; exact h2
    · exact h y hy
  · rcases List.mem_append.1 hx with h3 | h3
    · exact h x h3
    · simp only [List.mem_singleton] at h3; subst h3; exact h2
theorem putD_len (kvs : List (D × D)) (k v : D) : (putD kvs k v).length ≤ kvs.length + 1 := by
  unfold putD
  split <;> simp
theorem valD_mem {kvs : List (D × D)} {kv : D × D} (h : kv ∈ kvs) : ∃ v, (kv.1, v) ∈ kvs ∧ valD kvs kv.1 = some v := by
  unfold valD
  cases e : kvs.find? (fun x => decide (x.1 = kv.1)) with
  | none => rw [List.find?_eq_none] at e; exact absurd (e kv h) (by simp)
  | some y =>
    have h1 := List.find?_some e
    have h2 := List.mem_of_find?_eq_some e
    simp only [decide_eq_true_eq] at h1
    exact ⟨y.2, by rw [← h1]; exact h2, rfl⟩
section
variable {bd : D → Rho → (Rho → Prop) → Prop} {body : Rho → Store → KR → Prop} {st : Store → Prop} {nx : KR}
/-- a loop and what holds ahead of each turn -/
theorem wFor_inv (I : List D → Rho → Store → Prop) (hn : ∀ ρ S, I [] ρ S → st S ∧ nx ρ S) (hs : ∀ x xs ρ S k, I (x :: xs) ρ S → (∀ ρ2 S2, I xs ρ2 S2 → k ρ2 S2) → st S ∧ bd x ρ fun ρ1 => body ρ1 S k) : ∀ ds ρ S, I ds ρ S → wFor bd body st ds ρ S nx
  | [], ρ, S, h => hn ρ S h
  | x :: xs, ρ, S, h => hs x xs ρ S _ h fun ρ2 S2 h2 => wFor_inv I hn hs xs ρ2 S2 h2
end
/-- all but l stays; more may be there -/
def Grew (l : List Addr) (S S' : Store) : Prop := ∀ q o, q ∉ l → S q = some o → S' q = some o
namespace Grew
variable {l : List Addr} {S S1 S2 : Store} {p : Addr} {o : Ob}
theorem refl : Grew l S S := fun _ _ _ h => h
theorem trans (a : Grew l S S1) (b : Grew l S1 S2) : Grew l S S2 := fun q o h e => b q o h (a q o h e)
theorem new (h : S p = none) : Grew l S (S.upd p o) := fun q u _ e => by rw [Store.upd_ne (fun z => by subst z; rw [h] at e; cases e)]; exact e
theorem at_ (h : p ∈ l) : Grew l S (S.upd p o) := fun q u hq e => by rw [Store.upd_ne (fun z => by subst z; exact hq h)]; exact e
theorem thenNew (a : Grew l S S1) (h : S1 p = none) : Grew l S (S1.upd p o) := a.trans (new h)
theorem thenAt (a : Grew l S S1) (h : p ∈ l) : Grew l S (S1.upd p o) := a.trans (at_ h)
/-- what was not there ahead does not count -/
theorem thenFresh (a : Grew l S S1) (h : S p = none) : Grew l S (S1.upd p o) := fun q u hq e => by rw [Store.upd_ne (fun z => by subst z; rw [h] at e; cases e)]; exact a q u hq e
theorem sub {l' : List Addr} (a : Grew l S S1) (h : ∀ x ∈ l, x ∈ l' ∨ S x = none) : Grew l' S S1 := fun q u hq e => a q u (fun z => (h q z).elim hq fun z2 => by rw [z2] at e; cases e) e
end Grew
theorem mul_l {a b : Int} (h1 : -(2 ^ 64) < a) (h2 : a < 2 ^ 64) : IntMulOk a b := IntMulOk.of_left (intBits_le_64 h1 h2)
theorem mul_r {a b : Int} (h1 : -(2 ^ 64) < b) (h2 : b < 2 ^ 64) : IntMulOk a b := IntMulOk.of_right (intBits_le_64 h1 h2)
theorem cdiv {a b : Int} (h1 : 0 < b) (h2 : b < 2 ^ 64) : CDivW a b := by
  refine ⟨h1, ?_⟩
  have h : b.natAbs.log2 < 64 := by
    rw [Nat.log2_lt (by omega)]
    omega
  omega
theorem cpow {a b : Int} (h1 : 0 ≤ b) (h2 : b ≤ 1000000) (h3 : a.natAbs < 2 ^ 64) : CPow a b := ⟨h1, h2, h3⟩
theorem all_of {α : Type} (f : α → D) (P : α → Prop) : ∀ ds : List D, (∀ d ∈ ds, ∃ x, d = f x ∧ P x) → ∃ xs : List α, ds = xs.map f ∧ ∀ x ∈ xs, P x
  | [], _ => ⟨[], rfl, by simp⟩
  | d :: ds, h => by
    obtain ⟨x, rfl, hx⟩ := h d List.mem_cons_self
    obtain ⟨xs, rfl, hs⟩ := all_of f P ds fun e he => h e (List.mem_cons_of_mem _ he)
    exact ⟨x :: xs, rfl, by simpa using ⟨hx, hs⟩⟩
theorem sortD_perm (ds : List D) : (sortD ds).Perm ds := List.mergeSort_perm ds leD
theorem sorted_of {α : Type} (f : α → D) (P : α → Prop) (xs : List α) (h : ∀ x ∈ xs, P x) : ∃ ys : List α, sortD (xs.map f) = ys.map f ∧ (∀ y ∈ ys, P y) ∧ ys.length = xs.length := by
  obtain ⟨ys, e, hy⟩ := all_of f P (sortD (xs.map f)) fun d hd => by
    have := (sortD_perm _).mem_iff.1 hd
    obtain ⟨x, hx, rfl⟩ := List.mem_map.1 this
    exact ⟨x, rfl, h x hx⟩
  refine ⟨ys, e, hy, ?_⟩
  have := (sortD_perm (xs.map f)).length_eq
  rw [e] at this
  simpa using this
theorem pys_eq (ds : List D) : pys ds = ds.map D.py := by
  induction ds with
  | nil => rfl
  | cons d ds ih => simp [pys, ih]
theorem pures_all {ds : List D} (h : ∀ d ∈ ds, d.pure = true) : pures ds = true := by
  induction ds with
  | nil => rfl
  | cons d ds ih => simp only [pures, h d List.mem_cons_self, ih fun e he => h e (List.mem_cons_of_mem _ he), Bool.and_self]
/-- ints sort -/
theorem sortOk_ints (is : List Int) : sortOk (is.map .int) := by
  refine ⟨pures_all fun d hd => ?_, ?_, .inr ?_, ?_⟩
  · obtain ⟨i, _, rfl⟩ := List.mem_map.1 hd; rfl
  all_goals
    rw [pys_eq]
    simp only [List.map_map]
  · intro x hx y hy
    obtain ⟨i, _, rfl⟩ := List.mem_map.1 hx
    obtain ⟨j, _, rfl⟩ := List.mem_map.1 hy
    rfl
  · intro x hx
    obtain ⟨i, _, rfl⟩ := List.mem_map.1 hx
    exact ⟨by simp [D.py], by simp [D.py]⟩
  · intro x hx
    obtain ⟨i, _, rfl⟩ := List.mem_map.1 hx
    simp [D.py, PyData.depth]
namespace Lad
def toL : Lad → List (Lad × Int)
  | nil => []
  | cons e m r => (e, m) :: r.toL
def ofL : List (Lad × Int) → Lad
  | [] => nil
  | (e, m) :: r => cons e m (ofL r)
theorem to_of : ∀ xs, (ofL xs).toL = xs
  | [] => rfl
  | (e, m) :: r => by simp [ofL, toL, to_of r]
def rowD (x : Lad × Int) : D := .tup [x.1.d, .int x.2]
theorem enc_toL : ∀ a : Lad, a.enc = a.toL.map rowD
  | nil => rfl
  | cons e m r => by simp [enc, toL, rowD, enc_toL r, d]
theorem enc_ofL (xs : List (Lad × Int)) : (ofL xs).enc = xs.map rowD := by rw [enc_toL, to_of]
theorem d_ofL (xs : List (Lad × Int)) : D.tup (xs.map rowD) = (ofL xs).d := by rw [d, enc_ofL]
/-- each count is one at least -/
def Pos : Lad → Prop
  | nil => True
  | cons e m r => e.Pos ∧ 1 ≤ m ∧ r.Pos
theorem pos_ofL : ∀ {xs : List (Lad × Int)}, (∀ x ∈ xs, x.1.Pos ∧ 1 ≤ x.2) → (ofL xs).Pos
  | [], _ => trivial
  | (e, m) :: r, h => ⟨(h (e, m) List.mem_cons_self).1, (h (e, m) List.mem_cons_self).2, pos_ofL fun x hx => h x (List.mem_cons_of_mem _ hx)⟩
theorem pos_toL : ∀ {a : Lad}, a.Pos → ∀ x ∈ a.toL, x.1.Pos ∧ 1 ≤ x.2
  | nil, _, x, hx => by cases hx
  | cons e m r, h, x, hx => by
    rcases List.mem_cons.1 hx with rfl | hx
    · exact ⟨h.1, h.2.1⟩
    · exact pos_toL h.2.2 x hx
theorem dep_ofL {n : Nat} : ∀ {xs : List (Lad × Int)}, (∀ x ∈ xs, x.1.dep < n) → (ofL xs).dep ≤ n
  | [], _ => Nat.zero_le _
  | (e, m) :: r, h => Nat.max_le.2 ⟨h (e, m) List.mem_cons_self, dep_ofL fun x hx => h x (List.mem_cons_of_mem _ hx)⟩
theorem dep_toL : ∀ {a : Lad}, ∀ x ∈ a.toL, x.1.dep < a.dep
  | nil, x, hx => by cases hx
  | cons e m r, x, hx => by
    rcases List.mem_cons.1 hx with rfl | hx
    · simp only [dep]; omega
    · have := dep_toL (a := r) x hx
      simp only [dep]; omega
theorem alike_enc : ∀ a b : Lad, PySem.W.alikeAll (pys a.enc) (pys b.enc) = true
  | nil, _ => by simp [enc, pys, PySem.W.alikeAll]
  | cons _ _ _, nil => by simp [enc, pys, PySem.W.alikeAll]
  | cons e m r, cons e' m' r' => by simp [enc, pys, D.py, PySem.W.alikeAll, PySem.W.alike, alike_enc e e', alike_enc r r']
/-- rows sort -/
theorem sortOk_rows {xs : List (Lad × Int)} (h : ∀ x ∈ xs, x.1.dep ≤ 90) : sortOk (xs.map rowD) := by
  refine ⟨pures_all fun d hd => ?_, ?_, .inl ?_, ?_⟩
  · obtain ⟨i, _, rfl⟩ := List.mem_map.1 hd
    simp [rowD, d, D.pure, pures, pure_enc]
  all_goals
    rw [pys_eq]
    simp only [List.map_map]
  · intro x hx y hy
    obtain ⟨i, _, rfl⟩ := List.mem_map.1 hx
    obtain ⟨j, _, rfl⟩ := List.mem_map.1 hy
    simp [rowD, d, D.py, pys, PySem.W.alike, PySem.W.alikeAll, alike_enc]
  · intro x hx
    obtain ⟨i, _, rfl⟩ := List.mem_map.1 hx
    exact ⟨i.1.d.py, [.int i.2], by simp only [Function.comp, rowD, D.py, pys]⟩
  · intro x hx
    obtain ⟨i, hi, rfl⟩ := List.mem_map.1 hx
    have h1 := dep_enc i.1
    have h2 := h i hi
    simp only [Function.comp, rowD, d, D.py, pys, PyData.depth, PyData.depthAll]
    omega
/-- how high an exponent stands: none, one, a count, more -/
def cls : Lad → Nat
  | nil => 0
  | cons nil m nil => if 1 < m then 2 else 1
  | _ => 3
def top (a : Lad) : Nat := (a.toL.map fun x => cls x.1).foldr max 0
theorem top_nil : (nil : Lad).top = 0 := rfl
theorem top_le {a : Lad} {k : Nat} : a.top ≤ k ↔ ∀ x ∈ a.toL, cls x.1 ≤ k := by
  unfold top
  generalize a.toL = xs
  induction xs with
  | nil => simp
  | cons x xs ih => simp only [List.map_cons, List.foldr_cons, List.mem_cons, forall_eq_or_imp, Nat.max_le, ih]
def one : Lad := cons nil 1 nil
theorem less_one : ∀ {e : Lad}, e.Pos → one.less e = decide (2 ≤ cls e)
  | nil, _ => rfl
  | cons nil m nil, h => by
    simp only [one, less, cls, if_true]
    by_cases c : (1 : Int) = m
    · subst c; simp
    · have := h.2.1
      have c2 : 1 < m := by omega
      simp [c, c2]
  | cons nil m (cons e' m' r'), h => by
    simp only [one, less, cls, if_true]
    by_cases c : (1 : Int) = m
    · simp [c]
    · have := h.2.1
      have c2 : 1 < m := by omega
      simp [c, c2]
  | cons (cons a b c) m r, h => by simp [one, less, cls]
def isC (e : Lad) : Bool := decide (cls e ≤ 2)
end Lad
end Fel
end

section
set_option maxHeartbeats 8000000
/-! The program's top. -/
namespace Fel
open PySem L2
theorem rep_ints {K : PySem.W.Frag} {H : Hp} : ∀ ns : List Int, RepVs K H (ns.map V.int) (ns.map D.int)
  | [] => .nil
  | n :: ns => .cons (.int n) (rep_ints ns)
theorem lk_only {K : PySem.W.Frag} {H : Hp} {a : Addr} {xs : List V} (hO : Only H) (h : SqL K H a xs) : LkL K H a xs := by
  rcases h with h | h
  · rcases hO a with e | ⟨o, ys, e⟩
    · rcases h with h | ⟨o, h⟩
      · rw [e] at h; cases h
      · rw [e] at h; cases h
    · rcases h with h | ⟨o', h⟩
      · rw [e] at h; cases h
      · exact .inl ⟨o', h⟩
  · exact .inr h
theorem law_only {K : PySem.W.Frag} {H : Hp} {a : Addr} {ns : List Int} {sp : FSp} (hO : Only H) (hS : SqL K H a (ns.map V.int)) (h : sp.run [.lk (ns.map .int)] (fun _ => none) (fun d _ => d = .bl true) fun _ _ _ => False) (har : 1 = sp.ar := by rfl) :
    lift K sp [.ref a] H (fun v _ => v = .bl true) fun _ _ _ => False := by
  refine ⟨[.lk (ns.map .int)], fun _ => none, _, _, har, .cons (.lk (lk_only hO hS) (rep_ints ns)) .nil, fun a o e => (by cases e), h, ?_, fun _ _ _ _ _ z => z.elim⟩
  intro d S' v H' hd _ r _
  subst hd
  cases r
  rfl
theorem tupK {K : PySem.W.Frag} {H : Hp} {a : Addr} {od : Option Addr} {its : List Value} {n : Nat} {sl : Array (Option Value)} {xs : List V} (l : K.lookup a = some ⟨.type "tuple", od, .seq its.toArray n, sl⟩) (v : Vals xs its) (h : its.length ≤ 1000 := by simp) : SqT K H a xs :=
  .inr ⟨_, _, _, l, rfl, rfl, by simpa using Nat.le_of_lt (small1000 h), by simpa using v⟩
theorem cx_no {P : Program} {w : World} {outer : List Env} {H : Hp} {s : Shared} {u : Value} {s' : Shared} : L2.CX P w outer H s (fun _ _ _ => False) u s' → False := fun ⟨_, _, _, _, _, _, _, _, _, _, _, _, z⟩ => z
/-! own errors' classes -/
section
variable {K : PySem.W.Frag} {mg : Str → Option Value} {D c : Addr} {x : Str} {b : Bool} {T : String}
theorem kit_own (hDD : PySem.W.subIn K (.ref D) (.ref D) = some true) (s : PySem.W.subIn K (.ref D) (.ref c) = some b) (t : PySem.W.typeIn K (.ref c) = some (.type "type")) (i : PySem.W.isClsIn K c = true) : PySem.W.kitCls K (.ref D) (.ref c) = some b ∧ PySem.W.kitOne K (.ref D) (.ref c) = some b := by
  have e2 : ((PySem.W.clsIn K c).isSome && PySem.W.typeIn K (.ref c) == some (.type "type")) = true := by
    have hi : (PySem.W.clsIn K c).isSome = true := i
    rw [hi, t]
    rfl
  have h1 : PySem.W.kitCls K (.ref D) (.ref c) = some b := by
    show (if ((PySem.W.clsIn K c).isSome && PySem.W.typeIn K (.ref c) == some (.type "type")) = true then PySem.W.subIn K (.ref D) (.ref c) else none) = some b
    rw [if_pos e2]
    exact s
  refine ⟨h1, ?_⟩
  unfold PySem.W.kitOne
  split
  · rename_i e
    have e' : D = c := Value.ref.inj (beq_iff_eq.mp e)
    subst e'
    rw [hDD] at s
    exact s
  · exact h1
theorem xf_own (e : ExcC K D) (hDD : PySem.W.subIn K (.ref D) (.ref D) = some true) (hm : mg x = some (.ref c)) (s : PySem.W.subIn K (.ref D) (.ref c) = some b) (t : PySem.W.typeIn K (.ref c) = some (.type "type")) (i : PySem.W.isClsIn K c = true) (b0 : PySem.W.subIn K (.ref c) (.type "BaseException") = some true) :
    ExcC K D ∧ ∃ v u, ClsV v u ∧ (mg x = some u ∨ (mg x = none ∧ bootBuiltins x = some u ∧ x ≠ "__name__")) ∧ PySem.W.kitOne K (.ref D) u = some b ∧ PySem.W.exmOne K (.ref D) u = some b := by
  obtain ⟨h1, h2⟩ := kit_own hDD s t i
  refine ⟨e, .ref c, .ref c, .own c, .inl hm, h2, ?_⟩
  unfold PySem.W.exmOne
  rw [b0, if_pos (by rfl)]
  exact h1
theorem xf_ty (e : ExcC K D) (hm : mg x = none) (hb : bootBuiltins x = some (.type T)) (hn : x ≠ "__name__") (s : PySem.W.subIn K (.ref D) (.type T) = some b) (k : PySem.W.kitMeta T = true) (b0 : PySem.W.subIn K (.type T) (.type "BaseException") = some true) :
    ExcC K D ∧ ∃ v u, ClsV v u ∧ (mg x = some u ∨ (mg x = none ∧ bootBuiltins x = some u ∧ x ≠ "__name__")) ∧ PySem.W.kitOne K (.ref D) u = some b ∧ PySem.W.exmOne K (.ref D) u = some b := by
  have h1 : PySem.W.kitCls K (.ref D) (.type T) = some b := by
    show (if PySem.W.kitMeta T = true then PySem.W.subIn K (.ref D) (.type T) else none) = some b
    rw [if_pos k]
    exact s
  refine ⟨e, .ty T, .type T, .ty T, .inr ⟨hm, hb, hn⟩, ?_, ?_⟩
  · unfold PySem.W.kitOne
    rw [if_neg (by intro z; exact absurd (beq_iff_eq.mp z) (by intro y; cases y))]
    exact h1
  · unfold PySem.W.exmOne
    rw [b0, if_pos (by rfl)]
    exact h1
end
end Fel
end

section
set_option maxHeartbeats 8000000
namespace K68
open PySem L2 Fel
def topS (i : Nat) : Stmt := PySem.Challenge.pw_felltimber_k68_orders_by_sizes.main.body.getD i (.Pass ⟨0, 0, 0, 0⟩)
abbrev s_size : Stmt := topS 22
def n_size : List Str := ["grove", "tree", "many"]
def b_size : Sxs :=
  .cons (.ret (.btl .sum (.op .mul (.var 2) (.op .add (.con (.int 1)) (.call "size" (.cons (.idx (.var 1) (.con (.int 1))) .nil)))) (.tup (.cons (.name 1) (.cons (.name 2) .nil))) (.seq (.var 0)) .none [1, 2])) .nil
set_option maxRecDepth 100000 in
theorem c_size : chkD n_size ["grove"] s_size b_size = true := by decide +kernel

def b_sizes_of_L0 : Sxs :=
  .cons (.aug 1 .mul (.var 4)) .nil
def b_sizes_of_L1 : Sxs :=
  .cons (.set (.name 4) (.op .mul (.op .add (.con (.int 1)) (.call "size" (.cons (.idx (.var 2) (.con (.int 1))) .nil))) (.call "sizes_of" (.cons (.idx (.var 2) (.con (.int 1))) .nil)))) (
  .cons (.for_ (.name 5) (.rng (.var 3)) b_sizes_of_L0) .nil)
abbrev s_sizes_of : Stmt := topS 25
def n_sizes_of : List Str := ["grove", "found", "tree", "many", "here", "turn"]
def b_sizes_of : Sxs :=
  .cons (.set (.name 1) (.con (.int 1))) (
  .cons (.for_ (.tup (.cons (.name 2) (.cons (.name 3) .nil))) (.seq (.var 0)) b_sizes_of_L1) (
  .cons (.ret (.var 1)) .nil))
set_option maxRecDepth 100000 in
theorem c_sizes_of : chkD n_sizes_of ["grove"] s_sizes_of b_sizes_of = true := by decide +kernel

def b_orders_L0 : Sxs :=
  .cons (.aug 2 .mul (.var 3)) .nil
abbrev s_orders : Stmt := topS 26
def n_orders : List Str := ["grove", "whole", "found", "k"]
def b_orders : Sxs :=
  .cons (.set (.name 1) (.call "size" (.cons (.var 0) .nil))) (
  .cons (.iff (.cmp .gt (.var 1) (.glo "MOST_SIZE")) (.cons (.raise "TooLong") .nil) (.nil)) (
  .cons (.set (.name 2) (.con (.int 1))) (
  .cons (.for_ (.name 3) (.rng2 (.con (.int 2)) (.op .add (.var 1) (.con (.int 1)))) b_orders_L0) (
  .cons (.ret (.op .fdiv (.var 2) (.call "sizes_of" (.cons (.var 0) .nil)))) .nil))))
set_option maxRecDepth 100000 in
theorem c_orders : chkD n_orders ["grove"] s_orders b_orders = true := by decide +kernel

abbrev s_law_purse : Stmt := topS 28
def n_law_purse : List Str := ["_law_script", "_law_k", "_law_cell", "_law_digits", "_law_begin"]
def b_law_purse : Sxs :=
  .cons (.set (.name 2) (.con (.int 0))) (
  .cons (.iff (.cmp .lt (.var 1) (.bt .len (.cons (.var 0) .nil))) (.cons (.set (.name 2) (.idx (.var 0) (.var 1))) .nil) (.nil)) (
  .cons (.set (.name 3) (.con (.int 0))) (
  .cons (.iff (.or (.cmp .ge (.var 2) (.op .pow (.con (.int 10)) (.con (.int 18)))) (.one (.cmp .lt (.var 2) (.con (.int 0))))) (.cons (.set (.name 3) (.op .mod (.bt .abs (.cons (.var 2) .nil)) (.op .mul (.op .mul (.op .mul (.op .mul (.op .pow (.con (.int 10)) (.con (.int 60))) (.op .pow (.con (.int 10)) (.con (.int 60)))) (.op .pow (.con (.int 10)) (.con (.int 60)))) (.op .pow (.con (.int 10)) (.con (.int 60)))) (.op .pow (.con (.int 10)) (.con (.int 60)))))) .nil) (.nil)) (
  .cons (.set (.name 4) (.op .mul (.op .add (.op .mod (.var 2) (.con (.int 18446744073709551557))) (.con (.int 1))) (.op .add (.op .add (.op .mul (.op .mul (.con (.int 7)) (.var 1)) (.var 1)) (.op .mul (.con (.int 2)) (.var 1))) (.con (.int 3))))) (
  .cons (.ret (.lst (.cons (.var 3) (.cons (.op .add (.op .mod (.op .mul (.var 4) (.con (.int 2654435761))) (.con (.int 18446744073709551557))) (.con (.int 1))) .nil)))) .nil)))))
set_option maxRecDepth 100000 in
theorem c_law_purse : chkD n_law_purse ["_law_script", "_law_k"] s_law_purse b_law_purse = true := by decide +kernel

abbrev s_law_take : Stmt := topS 29
def n_law_take : List Str := ["_law_purse_here", "_law_many", "_law_digit"]
def b_law_take : Sxs :=
  .cons (.iff (.cmp .gt (.idx (.var 0) (.con (.int 0))) (.con (.int 0))) (.cons (.set (.name 2) (.op .mod (.idx (.var 0) (.con (.int 0))) (.var 1))) (
   .cons (.seti (.var 0) (.con (.int 0)) (.op .fdiv (.idx (.var 0) (.con (.int 0))) (.var 1))) (
   .cons (.ret (.var 2)) .nil))) (.nil)) (
  .cons (.seti (.var 0) (.con (.int 1)) (.op .add (.op .mod (.op .add (.op .mul (.idx (.var 0) (.con (.int 1))) (.con (.int 5851302741139))) (.con (.int 977))) (.con (.int 18446744073709551557))) (.con (.int 1)))) (
  .cons (.ret (.op .mod (.op .fdiv (.op .pow (.idx (.var 0) (.con (.int 1))) (.con (.int 4))) (.con (.int 65537))) (.var 1))) .nil))
set_option maxRecDepth 100000 in
theorem c_law_take : chkD n_law_take ["_law_purse_here", "_law_many"] s_law_take b_law_take = true := by decide +kernel

abbrev s_law_names : Stmt := topS 30
def n_law_names : List Str := ["_law_purse_here", "_law_letters", "_law_base", "_law_many", "_law_turn", "_law_found", "_law_long", "_law_at", "_law_first", "_law_some", "_law_k", "_law_sign"]
def b_law_names : Sxs :=
  .cons (.set (.name 1) (.con (.str "abcdefghijklmnopqrstuvwxyz"))) (
  .cons (.set (.name 2) (.join "" (.lc (.idx (.var 1) (.call "_law_take" (.cons (.var 0) (.cons (.con (.int 26)) .nil)))) (.name 10) (.rng (.con (.int 8))) .none [10]))) (
  .cons (.set (.name 3) (.op .add (.con (.int 1)) (.call "_law_take" (.cons (.var 0) (.cons (.con (.int 8)) .nil))))) (
  .cons (.set (.name 4) (.call "_law_take" (.cons (.var 0) (.cons (.var 3) .nil)))) (
  .cons (.iff (.cmp .eq (.call "_law_take" (.cons (.var 0) (.cons (.con (.int 3)) .nil))) (.con (.int 0))) (.cons (.set (.name 5) (.lc (.slc (.var 2) .none (.some (.op .add (.var 10) (.con (.int 1))))) (.name 10) (.rng (.var 3)) .none [10])) .nil) (.cons (.set (.name 6) (.op .add (.con (.int 1)) (.call "_law_take" (.cons (.var 0) (.cons (.con (.int 8)) .nil))))) (
   .cons (.set (.name 7) (.call "_law_take" (.cons (.var 0) (.cons (.var 6) .nil)))) (
   .cons (.set (.name 8) (.call "_law_take" (.cons (.var 0) (.cons (.con (.int 26)) .nil)))) (
   .cons (.set (.name 9) (.lc (.idx (.var 1) (.op .mod (.op .add (.var 8) (.op .mul (.con (.int 3)) (.var 10))) (.con (.int 26)))) (.name 10) (.rng (.var 3)) .none [10])) (
   .cons (.set (.name 5) (.lc (.op .add (.op .add (.slc (.var 2) .none (.some (.var 7))) (.var 11)) (.slc (.var 2) (.some (.op .add (.var 7) (.con (.int 1)))) (.some (.var 6)))) (.name 11) (.seq (.var 9)) .none [11])) .nil)))))) (
  .cons (.ret (.op .add (.slc (.var 5) (.some (.var 4)) .none) (.slc (.var 5) .none (.some (.var 4))))) .nil)))))
set_option maxRecDepth 100000 in
theorem c_law_names : chkD n_law_names ["_law_purse_here"] s_law_names b_law_names = true := by decide +kernel

def b_law_tidy_L0 : Sxs :=
  .cons (.iff (.and (.cmp .ne (.var 1) (.lst (.nil))) (.one (.cmp .eq (.idx (.idx (.var 1) (.neg (.con (.int 1)))) (.con (.int 0))) (.var 2)))) (.cons (.set (.name 3) (.op .add (.var 3) (.idx (.bm .pop (.var 1) (.nil)) (.con (.int 1))))) .nil) (.nil)) (
  .cons (.ex (.bm .append (.var 1) (.cons (.tup (.cons (.var 2) (.cons (.var 3) .nil))) .nil))) .nil)
abbrev s_law_tidy : Stmt := topS 31
def n_law_tidy : List Str := ["_law_pairs", "_law_found", "_law_tree", "_law_many"]
def b_law_tidy : Sxs :=
  .cons (.set (.name 1) (.lst (.nil))) (
  .cons (.for_ (.tup (.cons (.name 2) (.cons (.name 3) .nil))) (.seq (.bt .sorted (.cons (.var 0) .nil))) b_law_tidy_L0) (
  .cons (.ret (.bt .tuple (.cons (.var 1) .nil))) .nil))
set_option maxRecDepth 100000 in
theorem c_law_tidy : chkD n_law_tidy ["_law_pairs"] s_law_tidy b_law_tidy = true := by decide +kernel

def b_law_grove_L0 : Sxs :=
  .cons (.set (.tup (.cons (.name 11) (.cons (.name 12) (.cons (.name 13) .nil)))) (.idx (.var 6) (.var 8))) (
  .cons (.set (.name 14) (.tup (.cons (.var 12) (.cons (.call "_law_tidy" (.cons (.idx (.var 9) (.var 8)) .nil)) .nil)))) (
  .cons (.ex (.bm .append (.idx (.var 9) (.var 11)) (.cons (.tup (.cons (.var 14) (.cons (.var 13) .nil))) .nil))) .nil))
def b_law_grove_L1 : Sxs :=
  .cons (.set (.name 10) (.call "_law_purse" (.cons (.var 0) (.cons (.op .add (.var 1) (.var 8)) .nil)))) (
  .cons (.set (.name 11) (.op .sub (.call "_law_take" (.cons (.var 10) (.cons (.op .add (.var 8) (.con (.int 1))) .nil))) (.con (.int 1)))) (
  .cons (.iff (.and (.cmp .ge (.var 11) (.con (.int 0))) (.one (.cmp .ge (.idx (.var 7) (.var 11)) (.var 5)))) (.cons (.set (.name 11) (.neg (.con (.int 1)))) .nil) (.nil)) (
  .cons (.set (.name 12) (.idx (.var 3) (.call "_law_take" (.cons (.var 10) (.cons (.bt .len (.cons (.var 3) .nil)) .nil))))) (
  .cons (.set (.name 13) (.op .add (.con (.int 1)) (.call "_law_take" (.cons (.var 10) (.cons (.idx (.lst (.cons (.con (.int 1)) (.cons (.con (.int 1)) (.cons (.con (.int 3)) (.cons (.var 4) .nil))))) (.call "_law_take" (.cons (.var 10) (.cons (.con (.int 4)) .nil)))) .nil))))) (
  .cons (.ex (.bm .append (.var 6) (.cons (.tup (.cons (.var 11) (.cons (.var 12) (.cons (.var 13) .nil)))) .nil))) (
  .cons (.ex (.bm .append (.var 7) (.cons (.op .add (.con (.int 1)) (.idx (.op .add (.lst (.cons (.con (.int 0)) .nil)) (.var 7)) (.op .add (.var 11) (.con (.int 1))))) .nil))) .nil))))))
abbrev s_law_grove : Stmt := topS 32
def n_law_grove : List Str := ["_law_script", "_law_first", "_law_many", "_law_names_here", "_law_great", "_law_low", "_law_rows", "_law_deep", "_law_k", "_law_held", "_law_purse_here", "_law_holder", "_law_kind", "_law_count", "_law_tree"]
def b_law_grove : Sxs :=
  .cons (.set (.name 6) (.lst (.nil))) (
  .cons (.set (.name 7) (.lst (.nil))) (
  .cons (.for_ (.name 8) (.rng (.var 2)) b_law_grove_L1) (
  .cons (.set (.name 9) (.lc (.lst (.nil)) (.name 8) (.rng (.op .add (.var 2) (.con (.int 1)))) .none [8])) (
  .cons (.for_ (.name 8) (.revr (.var 2)) b_law_grove_L0) (
  .cons (.ret (.call "_law_tidy" (.cons (.idx (.var 9) (.var 2)) .nil))) .nil)))))
set_option maxRecDepth 100000 in
theorem c_law_grove : chkD n_law_grove ["_law_script", "_law_first", "_law_many", "_law_names_here", "_law_great", "_law_low"] s_law_grove b_law_grove = true := by decide +kernel

def b_law_size_L0 : Sxs :=
  .cons (.set (.name 1) (.op .add (.var 1) (.op .mul (.var 3) (.op .add (.con (.int 1)) (.call "_law_size" (.cons (.idx (.var 2) (.con (.int 1))) .nil)))))) .nil
abbrev s_law_size : Stmt := topS 33
def n_law_size : List Str := ["_law_grove_here", "_law_found", "_law_tree", "_law_many"]
def b_law_size : Sxs :=
  .cons (.set (.name 1) (.con (.int 0))) (
  .cons (.for_ (.tup (.cons (.name 2) (.cons (.name 3) .nil))) (.seq (.var 0)) b_law_size_L0) (
  .cons (.ret (.var 1)) .nil))
set_option maxRecDepth 100000 in
theorem c_law_size : chkD n_law_size ["_law_grove_here"] s_law_size b_law_size = true := by decide +kernel

def b_law_sizes_L0 : Sxs :=
  .cons (.set (.name 1) (.op .add (.var 1) (.op .mul (.op .add (.lst (.cons (.op .add (.con (.int 1)) (.call "_law_size" (.cons (.idx (.var 2) (.con (.int 1))) .nil))) .nil)) (.call "_law_sizes" (.cons (.idx (.var 2) (.con (.int 1))) .nil))) (.var 3)))) .nil
abbrev s_law_sizes : Stmt := topS 34
def n_law_sizes : List Str := ["_law_grove_here", "_law_found", "_law_tree", "_law_many"]
def b_law_sizes : Sxs :=
  .cons (.set (.name 1) (.lst (.nil))) (
  .cons (.for_ (.tup (.cons (.name 2) (.cons (.name 3) .nil))) (.seq (.var 0)) b_law_sizes_L0) (
  .cons (.ret (.var 1)) .nil))
set_option maxRecDepth 100000 in
theorem c_law_sizes : chkD n_law_sizes ["_law_grove_here"] s_law_sizes b_law_sizes = true := by decide +kernel

abbrev s_law_refused : Stmt := topS 35
def n_law_refused : List Str := ["_law_grove_here", "_law_seen", "error"]
def b_law_refused : Sxs :=
  .cons (.set (.name 1) (.lst (.nil))) (
  .cons (.tryAs (.cons (.ex (.call "orders" (.cons (.var 0) .nil))) .nil) "FellError" 2 [.set 1 (.lst (.cons (.isx 2 ["TooLong"]) (.cons (.isx 2 ["ValueError"]) .nil))), .ex (.bm .append (.var 1) (.cons (.isx 2 ["Endless", "NoBook", "NoDrop", "NoFall", "NoGrove", "NoKind", "NoLadder", "NoName"]) .nil)), .ex (.bm .append (.var 1) (.cons (.isx 2 ["NoNumber", "NoPlace", "NoReach", "NoRest", "NoRise", "NoRow", "NoRule"]) .nil)), .ex (.bm .append (.var 1) (.cons (.isx 2 ["NoWorths", "NotEndless", "TooGreat"]) .nil))]) (
  .cons (.ret (.cmp .eq (.var 1) (.lst (.cons (.con (.bl true)) (.cons (.con (.bl true)) (.cons (.con (.bl false)) (.cons (.con (.bl false)) (.cons (.con (.bl false)) .nil)))))))) .nil))
set_option maxRecDepth 100000 in
theorem c_law_refused : chkD n_law_refused ["_law_grove_here"] s_law_refused b_law_refused = true := by decide +kernel

def b_law_right_L0 : Sxs :=
  .cons (.iff (.cmp .gt (.op .mod (.var 2) (.var 4)) (.con (.int 0))) (.cons (.ret (.con (.bl false))) .nil) (.nil)) (
  .cons (.set (.name 2) (.op .fdiv (.var 2) (.var 4))) .nil)
def b_law_right_L1 : Sxs :=
  .cons (.set (.name 2) (.op .mul (.var 2) (.var 3))) .nil
abbrev s_law_right : Stmt := topS 36
def n_law_right : List Str := ["_law_grove_here", "_law_many", "_law_found", "_law_number", "_law_k"]
def b_law_right : Sxs :=
  .cons (.set (.name 1) (.call "_law_size" (.cons (.var 0) .nil))) (
  .cons (.iff (.cmp .gt (.var 1) (.con (.int 400))) (.cons (.ret (.call "_law_refused" (.cons (.var 0) .nil))) .nil) (.nil)) (
  .cons (.set (.name 2) (.call "orders" (.cons (.var 0) .nil))) (
  .cons (.iff (.or (.not (.isi (.var 2) "int")) (.or (.isi (.var 2) "bool") (.one (.cmp .lt (.var 2) (.con (.int 1)))))) (.cons (.ret (.con (.bl false))) .nil) (.nil)) (
  .cons (.for_ (.name 3) (.seq (.call "_law_sizes" (.cons (.var 0) .nil))) b_law_right_L1) (
  .cons (.for_ (.name 4) (.rng2 (.con (.int 1)) (.op .add (.var 1) (.con (.int 1)))) b_law_right_L0) (
  .cons (.ret (.cmp .eq (.var 2) (.con (.int 1)))) .nil))))))
set_option maxRecDepth 100000 in
theorem c_law_right : chkD n_law_right ["_law_grove_here"] s_law_right b_law_right = true := by decide +kernel

def b_law_L0 : Sxs :=
  .cons (.iff (.not (.call "_law_right" (.cons (.call "_law_tidy" (.cons (.op .add (.bt .list (.cons (.var 5) .nil)) (.lst (.cons (.tup (.cons (.var 7) (.cons (.var 8) .nil))) .nil))) .nil)) .nil))) (.cons (.ret (.con (.bl false))) .nil) (.nil)) .nil
abbrev s_law : Stmt := topS 37
def n_law : List Str := ["_law_script", "_law_head", "_law_names_here", "_law_many", "_law_great", "_law_grove_here", "_law_lack", "_law_tree", "_law_much"]
def b_law : Sxs :=
  .cons (.set (.name 1) (.call "_law_purse" (.cons (.var 0) (.cons (.con (.int 0)) .nil)))) (
  .cons (.set (.name 2) (.call "_law_names" (.cons (.call "_law_purse" (.cons (.var 0) (.cons (.con (.int 1)) .nil))) .nil))) (
  .cons (.set (.name 3) (.call "_law_take" (.cons (.var 1) (.cons (.idx (.lst (.cons (.con (.int 3)) (.cons (.con (.int 9)) (.cons (.con (.int 41)) .nil)))) (.call "_law_take" (.cons (.var 1) (.cons (.con (.int 3)) .nil)))) .nil)))) (
  .cons (.set (.name 4) (.idx (.lst (.cons (.con (.int 1)) (.cons (.con (.int 9)) (.cons (.op .pow (.con (.int 10)) (.con (.int 50))) .nil)))) (.call "_law_take" (.cons (.var 1) (.cons (.con (.int 3)) .nil))))) (
  .cons (.set (.name 5) (.call "_law_grove" (.cons (.var 0) (.cons (.con (.int 2)) (.cons (.var 3) (.cons (.var 2) (.cons (.var 4) (.cons (.con (.int 12)) .nil)))))))) (
  .cons (.iff (.or (.not (.call "_law_right" (.cons (.var 5) .nil))) (.one (.not (.call "_law_right" (.cons (.tup (.nil)) .nil))))) (.cons (.ret (.con (.bl false))) .nil) (.nil)) (
  .cons (.set (.name 6) (.op .sub (.con (.int 400)) (.call "_law_size" (.cons (.var 5) .nil)))) (
  .cons (.iff (.cmp .lt (.var 6) (.con (.int 1))) (.cons (.ret (.con (.bl true))) .nil) (.nil)) (
  .cons (.set (.name 7) (.tup (.cons (.idx (.var 2) (.con (.int 0))) (.cons (.tup (.nil)) .nil)))) (
  .cons (.for_ (.name 8) (.seq (.lst (.cons (.var 6) (.cons (.op .add (.var 6) (.con (.int 1))) .nil)))) b_law_L0) (
  .cons (.ret (.con (.bl true))) .nil))))))))))
set_option maxRecDepth 100000 in
theorem c_law : chkD n_law ["_law_script"] s_law b_law = true := by decide +kernel

end K68
end

section
set_option maxHeartbeats 8000000
/-! Groves as a type; as data. Whole numbers that grow. -/
namespace Fel
open PySem L2
theorem bits_le {a : Int} {k : Nat} (h : a.natAbs < 2 ^ k) : Builtin.Int.intBits a ≤ k := by
  unfold Builtin.Int.intBits
  split
  · omega
  · rename_i hz
    have hz' : a.natAbs ≠ 0 := by
      intro z
      apply hz
      have : a = 0 := by omega
      simp [this]
    have := (Nat.log2_lt hz').2 h
    omega
theorem mul_big {a b : Int} {k j : Nat} (h1 : a.natAbs < 2 ^ k) (h2 : b.natAbs < 2 ^ j) (h : k + j ≤ 2 ^ 27) : IntMulOk a b := by
  unfold IntMulOk Builtin.Int.intTooBig
  have e1 := bits_le h1
  have e2 := bits_le h2
  have e : ¬ (Builtin.Int.intBits a + Builtin.Int.intBits b > bitsLine) := by unfold bitsLine; omega
  have e' : decide (((Builtin.Int.intBits a + Builtin.Int.intBits b : Nat) : Int) > (bitsLine : Int)) = false := by
    apply decide_eq_false
    omega
  intro z
  simp only [Bool.and_eq_true] at z
  have := z.2
  first
    | exact absurd (of_decide_eq_true this) (by omega)
    | (simp [e] at this)
inductive Grv where
  | nil | cons (k : Str) (h : Grv) (m : Int) (r : Grv)
  deriving DecidableEq
namespace Grv
def enc : Grv → List D
  | nil => []
  | cons k h m r => .tup [.tup [.str k, .tup h.enc], .int m] :: r.enc
def d (a : Grv) : D := .tup a.enc
theorem d_def (a : Grv) : D.tup a.enc = a.d := rfl
def len : Grv → Nat
  | nil => 0
  | cons _ _ _ r => r.len + 1
def dep : Grv → Nat
  | nil => 0
  | cons _ h _ r => max (h.dep + 1) r.dep
def size : Grv → Int
  | nil => 0
  | cons _ h m r => m * (1 + h.size) + r.size
def prod : Grv → Nat
  | nil => 1
  | cons _ h m r => ((1 + h.size.toNat) * h.prod) ^ m.toNat * r.prod
/-- a row: kind, held, many -/
abbrev Row := (Str × Grv) × Int
def treeD (t : Str × Grv) : D := .tup [.str t.1, t.2.d]
def rowD (x : Row) : D := .tup [treeD x.1, .int x.2]
def toL : Grv → List Row
  | nil => []
  | cons k h m r => ((k, h), m) :: r.toL
def ofL : List Row → Grv
  | [] => nil
  | ((k, h), m) :: r => cons k h m (ofL r)
theorem to_of : ∀ xs, (ofL xs).toL = xs
  | [] => rfl
  | ((k, h), m) :: r => by simp [ofL, toL, to_of r]
theorem enc_toL : ∀ a : Grv, a.enc = a.toL.map rowD
  | nil => rfl
  | cons k h m r => by simp [enc, toL, rowD, treeD, enc_toL r, d]
theorem d_toL (a : Grv) : a.d = .tup (a.toL.map rowD) := by rw [d, enc_toL]
theorem d_ofL (xs : List Row) : D.tup (xs.map rowD) = (ofL xs).d := by rw [d_toL, to_of]
theorem len_toL : ∀ a : Grv, a.toL.length = a.len
  | nil => rfl
  | cons _ _ _ r => by simp [toL, len, len_toL r]
theorem len_ofL (xs : List Row) : (ofL xs).len = xs.length := by rw [← len_toL, to_of]
theorem pure_enc : ∀ a : Grv, pures a.enc = true
  | nil => rfl
  | cons k h m r => by simp [enc, pures, D.pure, pure_enc h, pure_enc r]
/-- all names can be told -/
def Nm : Grv → Prop
  | nil => True
  | cons k h _ r => PyData.strOk k = true ∧ h.Nm ∧ r.Nm
theorem lay_enc : ∀ a : Grv, a.Nm → PyData.canLayAll0 (pys a.enc) = true
  | nil, _ => rfl
  | cons k h m r, hn => by simp [enc, pys, D.py, PyData.canLayAll0, PyData.canLay0, lay_enc h hn.2.1, lay_enc r hn.2.2, hn.1]
theorem dep_enc : ∀ a : Grv, PyData.depthAll (pys a.enc) ≤ 3 * a.dep
  | nil => by simp [enc, pys, PyData.depthAll]
  | cons k h m r => by
    have h1 := dep_enc h
    have h2 := dep_enc r
    simp only [enc, pys, D.py, PyData.depthAll, PyData.depth, dep]
    omega
theorem alike_enc : ∀ a b : Grv, PySem.W.alikeAll (pys a.enc) (pys b.enc) = true
  | nil, _ => by simp [enc, pys, PySem.W.alikeAll]
  | cons _ _ _ _, nil => by simp [enc, pys, PySem.W.alikeAll]
  | cons k h m r, cons k' h' m' r' => by simp [enc, pys, D.py, PySem.W.alikeAll, PySem.W.alike, alike_enc h h', alike_enc r r']
theorem sortOk_rows {xs : List Row} (h : ∀ x ∈ xs, x.1.2.dep ≤ 60) : sortOk (xs.map rowD) := by
  refine ⟨pures_all fun d hd => ?_, ?_, .inl ?_, ?_⟩
  · obtain ⟨i, _, rfl⟩ := List.mem_map.1 hd
    simp [rowD, treeD, Grv.d, D.pure, pures, pure_enc]
  all_goals
    rw [pys_eq]
    simp only [List.map_map]
  · intro x hx y hy
    obtain ⟨i, _, rfl⟩ := List.mem_map.1 hx
    obtain ⟨j, _, rfl⟩ := List.mem_map.1 hy
    simp [rowD, treeD, Grv.d, D.py, pys, PySem.W.alike, PySem.W.alikeAll, alike_enc]
  · intro x hx
    obtain ⟨i, _, rfl⟩ := List.mem_map.1 hx
    exact ⟨(treeD i.1).py, [.int i.2], by simp only [Function.comp, rowD, D.py, pys]⟩
  · intro x hx
    obtain ⟨i, hi, rfl⟩ := List.mem_map.1 hx
    have h1 := dep_enc i.1.2
    have h2 := h i hi
    simp only [Function.comp, rowD, treeD, Grv.d, D.py, pys, PyData.depth, PyData.depthAll]
    omega
/-- whether two trees are equal: either way -/
theorem eqW_tree {S : Store} {t u : Str × Grv} (h : t.2.dep ≤ 60) (ht : PyData.strOk t.1 = true ∧ t.2.Nm) (hu : PyData.strOk u.1 = true ∧ u.2.Nm) {k : Bool → Prop} (hk : ∀ b, k b) : eqW S (treeD t) (treeD u) k := by
  have e1 : look S (treeD t) = some (treeD t).py := by simp [look, treeD, Grv.d, D.pure, pures, pure_enc]
  have e2 : look S (treeD u) = some (treeD u).py := by simp [look, treeD, Grv.d, D.pure, pures, pure_enc]
  have e3 : (treeD t).scal = false := rfl
  unfold eqW
  rw [e3, e1, e2]
  have h1 := dep_enc t.2
  simp only [Bool.false_eq_true, false_and, if_false]
  refine ⟨by simp [treeD, Grv.d, D.py, pys, PyData.canLay0, PyData.canLayAll0, lay_enc _ ht.2, ht.1], by simp [treeD, Grv.d, D.py, pys, PyData.canLay0, PyData.canLayAll0, lay_enc _ hu.2, hu.1], ?_, hk _⟩
  simp only [treeD, Grv.d, D.py, pys, PyData.depth, PyData.depthAll]
  omega
/-- counts and widths are small -/
def Ok : Grv → Prop
  | nil => True
  | cons k h m r => h.Ok ∧ h.len ≤ 64 ∧ 1 ≤ m ∧ m < 2 ^ 180 ∧ r.Ok ∧ PyData.strOk k = true
theorem Ok.nm : ∀ {a : Grv}, a.Ok → a.Nm
  | nil, _ => trivial
  | cons k h m r, x => ⟨x.2.2.2.2.2, x.1.nm, x.2.2.2.2.1.nm⟩
def RowOk (n : Nat) (x : Row) : Prop := x.1.2.Ok ∧ x.1.2.len ≤ 64 ∧ 1 ≤ x.2 ∧ x.2 < 2 ^ 180 ∧ x.1.2.dep < n ∧ PyData.strOk x.1.1 = true
theorem ok_toL : ∀ {a : Grv} {n : Nat}, a.Ok → a.dep ≤ n → ∀ x ∈ a.toL, RowOk n x
  | nil, _, _, _, x, hx => by cases hx
  | cons k h m r, n, ha, hd, x, hx => by
    simp only [dep] at hd
    rcases List.mem_cons.1 hx with rfl | hx
    · exact ⟨ha.1, ha.2.1, ha.2.2.1, ha.2.2.2.1, by show h.dep < n; omega, ha.2.2.2.2.2⟩
    · exact ok_toL ha.2.2.2.2.1 (by omega) x hx
theorem ok_ofL : ∀ {xs : List Row} {n : Nat}, (∀ x ∈ xs, RowOk n x) → (ofL xs).Ok ∧ (ofL xs).dep ≤ n
  | [], _, _ => ⟨trivial, Nat.zero_le _⟩
  | ((k, h), m) :: r, n, ha => by
    obtain ⟨h1, h2, h3, h4, h5, h6⟩ := ha _ List.mem_cons_self
    obtain ⟨r1, r2⟩ := ok_ofL (xs := r) fun x hx => ha x (List.mem_cons_of_mem _ hx)
    exact ⟨⟨h1, h2, h3, h4, r1, h6⟩, Nat.max_le.2 ⟨h5, r2⟩⟩
theorem size_nn : ∀ {a : Grv}, a.Ok → 0 ≤ a.size
  | nil, _ => Int.le_refl _
  | cons k h m r, ha => by
    have h1 := size_nn ha.1
    have h2 := size_nn ha.2.2.2.2.1
    have h3 : 0 ≤ m * (1 + h.size) := Int.mul_nonneg (by have := ha.2.2.1; omega) (by omega)
    simp only [size]
    omega
theorem size_le {X : Nat} : ∀ {a : Grv}, a.Ok → (∀ x ∈ a.toL, (x.1.2.size + 1 : Int) ≤ X) → a.size ≤ (a.len * (2 ^ 180 * X) : Nat)
  | nil, _, _ => by simp [size, len]
  | cons k h m r, ha, hx => by
    have h1 : (h.size + 1 : Int) ≤ X := hx _ List.mem_cons_self
    have h2 := size_le ha.2.2.2.2.1 fun x h => hx x (List.mem_cons_of_mem _ h)
    have h0 := size_nn ha.1
    have h3 : m * (1 + h.size) ≤ ((2 ^ 180 * X : Nat) : Int) := by
      rw [Int.natCast_mul]
      have hm : m ≤ ((2 ^ 180 : Nat) : Int) := by have := ha.2.2.2.1; omega
      exact Int.mul_le_mul hm (by omega) (by omega) (by omega)
    have e : (r.len + 1) * (2 ^ 180 * X) = r.len * (2 ^ 180 * X) + 2 ^ 180 * X := Nat.succ_mul _ _
    show m * (1 + h.size) + r.size ≤ (((r.len + 1) * (2 ^ 180 * X) : Nat) : Int)
    rw [e, Int.natCast_add]
    generalize 2 ^ 180 * X = Y at *
    generalize r.len * Y = Z at *
    omega
theorem size_lt : ∀ (n : Nat) {a : Grv}, a.Ok → a.len ≤ 64 → a.dep ≤ n → (a.size + 1 : Int) ≤ (2 ^ (190 * n) : Nat)
  | 0, nil, _, _, _ => by simp [size]
  | 0, cons k h m r, _, _, hd => by simp only [dep] at hd; omega
  | n + 1, a, ha, hl, hd => by
    have := size_le (X := 2 ^ (190 * n)) ha fun x hx => by
      obtain ⟨h1, h2, h3, h4, h5, _⟩ := ok_toL ha hd x hx
      exact size_lt n h1 h2 (by omega)
    have e : a.len * (2 ^ 180 * 2 ^ (190 * n)) + 1 ≤ 2 ^ (190 * (n + 1)) := by
      have e1 : 2 ^ (190 * (n + 1)) = 2 ^ 190 * 2 ^ (190 * n) := by rw [Nat.mul_add, Nat.pow_add, Nat.mul_comm]
      rw [e1]
      have e2 : 1 ≤ 2 ^ (190 * n) := Nat.one_le_two_pow
      generalize 2 ^ (190 * n) = X at *
      have e3 : a.len * (2 ^ 180 * X) ≤ 64 * (2 ^ 180 * X) := Nat.mul_le_mul_right _ hl
      omega
    generalize a.len * (2 ^ 180 * 2 ^ (190 * n)) = Y at *
    generalize 2 ^ (190 * (n + 1)) = Z at *
    omega
theorem size_bits {n : Nat} {a : Grv} (h : a.Ok) (h2 : a.len ≤ 64) (h3 : a.dep ≤ n) : (1 + a.size).natAbs < 2 ^ (190 * n + 1) := by
  have e := size_lt n h h2 h3
  have e0 := size_nn h
  rw [Nat.pow_succ]
  have : 1 ≤ 2 ^ (190 * n) := Nat.one_le_two_pow
  generalize 2 ^ (190 * n) = X at *
  omega
end Grv
end Fel
end

section
set_option maxHeartbeats 8000000
namespace K68
open PySem L2 Fel
def Purse (S : Store) (p : Addr) : Prop := ∃ a b : Int, S p = some (.lst [.int a, .int b]) ∧ 0 ≤ a ∧ 0 ≤ b ∧ b ≤ 18446744073709551557
theorem Purse.grew {l : List Addr} {S S' : Store} {p : Addr} (h : Purse S p) (g : Grew l S S') (hp : p ∉ l) : Purse S' p := by
  obtain ⟨a, b, h1, h2⟩ := h
  exact ⟨a, b, g _ _ hp h1, h2⟩
theorem Purse.ne {S : Store} {p : Addr} (h : Purse S p) : S p ≠ none := by
  obtain ⟨a, b, h1, h2⟩ := h
  rw [h1]; exact fun h => by cases h
theorem cdiv2 {a b : Int} (h1 : 0 < b) (h2 : b < 2 ^ 200) : CDivW a b := by
  refine ⟨h1, ?_⟩
  have h : b.natAbs.log2 < 200 := by
    rw [Nat.log2_lt (by omega)]
    omega
  omega
def spPurse : FSp := ⟨2, fun ds S Q _ => ∃ (is : List Int) (k : Int), ds = [.lk (is.map .int), .int k] ∧ 0 ≤ k ∧ k < 1000 ∧ ∀ p S', S p = none → Purse S' p → Grew [] S S' → Q (.ref p) S'⟩
theorem k_law_purse {C : Env'} : Keeps C b_law_purse n_law_purse spPurse := by
  rintro ds S Q E - ⟨is, k, rfl, h1, h2, q⟩
  show wpSs C _ b_law_purse [some _, some _, none, none, none] S _
  unfold b_law_purse
  try simp only [wpSs, wpS, wpI, wpE, wpEs, wpB, wpO, wpT, getV, btW, bmW, bmTy, on1_one, on2_two, onI_int, onB_bl, intW_int, intW_bl, lenW_tup, seqW_tup, lenW_ul, lenW_ud, idxW_ul, seqW_ul, lstW_ul, listW_ul, listW_ud, tupW_ul, onL_ul, atL_ul, setiW_u0, setiW_u1, slcW_ul, Store.upd_upd, lenW_lk, seqW_lk, lstW_lk, listW_lk, slcW_lk, slcW_tup, idxW_lk, listW_tup, tupW_tup, zipW_tup, opS_addI, opS_subI, opS_mulI, opS_fdivI, opS_modI, opS_powI, opS_addT, opS_addS, opW_addI, opW_subI, opW_mulI, opW_addS, ltW_int, ltW_str, ieq_t, ieq_f, ilt_t, ilt_f, ile_t, ile_f, cm_eq, cm_ne, cm_lt, cm_gt, cm_le, cm_ge, cm_in, cm_ni, cm_is, cm_isnt, eqW_int, eqW_str, eqW_bl, idxW_tup, atI_0, atI_1, atI_2, optQ_some, bindT_name, bindT_tup, bindTs_nil, bindTs_cons, wFor_nil, wFor_cons, zipD_cons, zipD_nil, zipD_nil2, List.set_cons_zero, List.set_cons_succ, true_and, and_true, List.length_cons, List.length_nil, Nat.zero_add, Nat.reduceAdd]
  have fin : ∀ c d : Int, 0 ≤ d → wpSs C (fun c g _ S' => ∃ S'', Sub S'' S' ∧ E c g S'') (.cons (.set (.name 4) (.op .mul (.op .add (.op .mod (.var 2) (.con (.int 18446744073709551557))) (.con (.int 1))) (.op .add (.op .add (.op .mul (.op .mul (.con (.int 7)) (.var 1)) (.var 1)) (.op .mul (.con (.int 2)) (.var 1))) (.con (.int 3))))) (
  .cons (.ret (.lst (.cons (.var 3) (.cons (.op .add (.op .mod (.op .mul (.var 4) (.con (.int 2654435761))) (.con (.int 18446744073709551557))) (.con (.int 1))) .nil)))) .nil)) [some (.lk (is.map .int)), some (.int k), some (.int c), some (.int d), none] S ⟨fun _ S' => ∃ S'', Sub S'' S' ∧ Q .non S'', fun d S' => ∃ S'', Sub S'' S' ∧ Q d S''⟩ := fun c d hd => by
    try simp only [wpSs, wpS, wpI, wpE, wpEs, wpB, wpO, wpT, getV, btW, bmW, bmTy, on1_one, on2_two, onI_int, onB_bl, intW_int, intW_bl, lenW_tup, seqW_tup, lenW_ul, lenW_ud, idxW_ul, seqW_ul, lstW_ul, listW_ul, listW_ud, tupW_ul, onL_ul, atL_ul, setiW_u0, setiW_u1, slcW_ul, Store.upd_upd, lenW_lk, seqW_lk, lstW_lk, listW_lk, slcW_lk, slcW_tup, idxW_lk, listW_tup, tupW_tup, zipW_tup, opS_addI, opS_subI, opS_mulI, opS_fdivI, opS_modI, opS_powI, opS_addT, opS_addS, opW_addI, opW_subI, opW_mulI, opW_addS, ltW_int, ltW_str, ieq_t, ieq_f, ilt_t, ilt_f, ile_t, ile_f, cm_eq, cm_ne, cm_lt, cm_gt, cm_le, cm_ge, cm_in, cm_ni, cm_is, cm_isnt, eqW_int, eqW_str, eqW_bl, idxW_tup, atI_0, atI_1, atI_2, optQ_some, bindT_name, bindT_tup, bindTs_nil, bindTs_cons, wFor_nil, wFor_cons, zipD_cons, zipD_nil, zipD_nil2, List.set_cons_zero, List.set_cons_succ, true_and, and_true, List.length_cons, List.length_nil, Nat.zero_add, Nat.reduceAdd]
    have e1 := Int.emod_nonneg c (b := 18446744073709551557) (by decide)
    have e2 := Int.emod_lt_of_pos c (b := 18446744073709551557) (by decide)
    refine ⟨by decide, mul_l (by decide) (by decide), mul_r (by omega) (by omega), mul_l (by decide) (by decide), mul_l (by omega) (by omega), mul_r (by decide) (by decide), by decide, fun p hp => Wp.ret (q p _ hp ⟨_, _, Store.upd_same, hd, ?_, ?_⟩ (Grew.new hp))⟩
    · have := Int.emod_nonneg ((c % 18446744073709551557 + 1) * (7 * k * k + 2 * k + 3) * 2654435761) (b := 18446744073709551557) (by decide)
      omega
    · have := Int.emod_lt_of_pos ((c % 18446744073709551557 + 1) * (7 * k * k + 2 * k + 3) * 2654435761) (b := 18446744073709551557) (by decide)
      omega
  have mid : ∀ c : Int, wpSs C (fun c g _ S' => ∃ S'', Sub S'' S' ∧ E c g S'') (.cons (.iff (.or (.cmp .ge (.var 2) (.op .pow (.con (.int 10)) (.con (.int 18)))) (.one (.cmp .lt (.var 2) (.con (.int 0))))) (.cons (.set (.name 3) (.op .mod (.bt .abs (.cons (.var 2) .nil)) (.op .mul (.op .mul (.op .mul (.op .mul (.op .pow (.con (.int 10)) (.con (.int 60))) (.op .pow (.con (.int 10)) (.con (.int 60)))) (.op .pow (.con (.int 10)) (.con (.int 60)))) (.op .pow (.con (.int 10)) (.con (.int 60)))) (.op .pow (.con (.int 10)) (.con (.int 60)))))) .nil) (.nil)) (
  .cons (.set (.name 4) (.op .mul (.op .add (.op .mod (.var 2) (.con (.int 18446744073709551557))) (.con (.int 1))) (.op .add (.op .add (.op .mul (.op .mul (.con (.int 7)) (.var 1)) (.var 1)) (.op .mul (.con (.int 2)) (.var 1))) (.con (.int 3))))) (
  .cons (.ret (.lst (.cons (.var 3) (.cons (.op .add (.op .mod (.op .mul (.var 4) (.con (.int 2654435761))) (.con (.int 18446744073709551557))) (.con (.int 1))) .nil)))) .nil))) [some (.lk (is.map .int)), some (.int k), some (.int c), some (.int 0), none] S ⟨fun _ S' => ∃ S'', Sub S'' S' ∧ Q .non S'', fun d S' => ∃ S'', Sub S'' S' ∧ Q d S''⟩ := fun c => by
    have f1 := fun d hd => fin c d hd
    try simp only [wpSs, wpS, wpI, wpE, wpEs, wpB, wpO, wpT, getV, btW, bmW, bmTy, on1_one, on2_two, onI_int, onB_bl, intW_int, intW_bl, lenW_tup, seqW_tup, lenW_ul, lenW_ud, idxW_ul, seqW_ul, lstW_ul, listW_ul, listW_ud, tupW_ul, onL_ul, atL_ul, setiW_u0, setiW_u1, slcW_ul, Store.upd_upd, lenW_lk, seqW_lk, lstW_lk, listW_lk, slcW_lk, slcW_tup, idxW_lk, listW_tup, tupW_tup, zipW_tup, opS_addI, opS_subI, opS_mulI, opS_fdivI, opS_modI, opS_powI, opS_addT, opS_addS, opW_addI, opW_subI, opW_mulI, opW_addS, ltW_int, ltW_str, ieq_t, ieq_f, ilt_t, ilt_f, ile_t, ile_f, cm_eq, cm_ne, cm_lt, cm_gt, cm_le, cm_ge, cm_in, cm_ni, cm_is, cm_isnt, eqW_int, eqW_str, eqW_bl, idxW_tup, atI_0, atI_1, atI_2, optQ_some, bindT_name, bindT_tup, bindTs_nil, bindTs_cons, wFor_nil, wFor_cons, zipD_cons, zipD_nil, zipD_nil2, List.set_cons_zero, List.set_cons_succ, true_and, and_true, List.length_cons, List.length_nil, Nat.zero_add, Nat.reduceAdd] at f1
    try simp only [wpSs, wpS, wpI, wpE, wpEs, wpB, wpO, wpT, getV, btW, bmW, bmTy, on1_one, on2_two, onI_int, onB_bl, intW_int, intW_bl, lenW_tup, seqW_tup, lenW_ul, lenW_ud, idxW_ul, seqW_ul, lstW_ul, listW_ul, listW_ud, tupW_ul, onL_ul, atL_ul, setiW_u0, setiW_u1, slcW_ul, Store.upd_upd, lenW_lk, seqW_lk, lstW_lk, listW_lk, slcW_lk, slcW_tup, idxW_lk, listW_tup, tupW_tup, zipW_tup, opS_addI, opS_subI, opS_mulI, opS_fdivI, opS_modI, opS_powI, opS_addT, opS_addS, opW_addI, opW_subI, opW_mulI, opW_addS, ltW_int, ltW_str, ieq_t, ieq_f, ilt_t, ilt_f, ile_t, ile_f, cm_eq, cm_ne, cm_lt, cm_gt, cm_le, cm_ge, cm_in, cm_ni, cm_is, cm_isnt, eqW_int, eqW_str, eqW_bl, idxW_tup, atI_0, atI_1, atI_2, optQ_some, bindT_name, bindT_tup, bindTs_nil, bindTs_cons, wFor_nil, wFor_cons, zipD_cons, zipD_nil, zipD_nil2, List.set_cons_zero, List.set_cons_succ, true_and, and_true, List.length_cons, List.length_nil, Nat.zero_add, Nat.reduceAdd]
    have p : ∀ x : Int, 0 ≤ x % (10 ^ (60 : Int).toNat * 10 ^ (60 : Int).toNat * 10 ^ (60 : Int).toNat * 10 ^ (60 : Int).toNat * 10 ^ (60 : Int).toNat) := fun x => Int.emod_nonneg _ (by decide +kernel)
    refine ⟨cpow (by decide) (by decide) (by decide), ifc (fun c1 => ⟨cpow (by decide) (by decide) (by decide), cpow (by decide) (by decide) (by decide), mul_big (k := 1000) (j := 1000) (by decide +kernel) (by decide +kernel) (by decide), cpow (by decide) (by decide) (by decide), mul_big (k := 1000) (j := 1000) (by decide +kernel) (by decide +kernel) (by decide), cpow (by decide) (by decide) (by decide), mul_big (k := 1000) (j := 1000) (by decide +kernel) (by decide +kernel) (by decide), cpow (by decide) (by decide) (by decide), mul_big (k := 1000) (j := 1000) (by decide +kernel) (by decide +kernel) (by decide), by decide +kernel, f1 _ (p _)⟩) fun c1 => ifc (fun c2 => ⟨cpow (by decide) (by decide) (by decide), cpow (by decide) (by decide) (by decide), mul_big (k := 1000) (j := 1000) (by decide +kernel) (by decide +kernel) (by decide), cpow (by decide) (by decide) (by decide), mul_big (k := 1000) (j := 1000) (by decide +kernel) (by decide +kernel) (by decide), cpow (by decide) (by decide) (by decide), mul_big (k := 1000) (j := 1000) (by decide +kernel) (by decide +kernel) (by decide), cpow (by decide) (by decide) (by decide), mul_big (k := 1000) (j := 1000) (by decide +kernel) (by decide +kernel) (by decide), by decide +kernel, f1 _ (p _)⟩) fun c2 => f1 0 (by decide)⟩
  have mid' := mid
  try simp only [wpSs, wpS, wpI, wpE, wpEs, wpB, wpO, wpT, getV, btW, bmW, bmTy, on1_one, on2_two, onI_int, onB_bl, intW_int, intW_bl, lenW_tup, seqW_tup, lenW_ul, lenW_ud, idxW_ul, seqW_ul, lstW_ul, listW_ul, listW_ud, tupW_ul, onL_ul, atL_ul, setiW_u0, setiW_u1, slcW_ul, Store.upd_upd, lenW_lk, seqW_lk, lstW_lk, listW_lk, slcW_lk, slcW_tup, idxW_lk, listW_tup, tupW_tup, zipW_tup, opS_addI, opS_subI, opS_mulI, opS_fdivI, opS_modI, opS_powI, opS_addT, opS_addS, opW_addI, opW_subI, opW_mulI, opW_addS, ltW_int, ltW_str, ieq_t, ieq_f, ilt_t, ilt_f, ile_t, ile_f, cm_eq, cm_ne, cm_lt, cm_gt, cm_le, cm_ge, cm_in, cm_ni, cm_is, cm_isnt, eqW_int, eqW_str, eqW_bl, idxW_tup, atI_0, atI_1, atI_2, optQ_some, bindT_name, bindT_tup, bindTs_nil, bindTs_cons, wFor_nil, wFor_cons, zipD_cons, zipD_nil, zipD_nil2, List.set_cons_zero, List.set_cons_succ, true_and, and_true, List.length_cons, List.length_nil, Nat.zero_add, Nat.reduceAdd] at mid'
  refine ifc (fun c => ?_) fun c => mid' 0
  rw [atI_nn h1]
  simp only [List.length_map] at c
  rw [List.getElem?_map, List.getElem?_eq_getElem (by omega)]
  simp only [Option.map_some, optQ_some]
  try simp only [wpSs, wpS, wpI, wpE, wpEs, wpB, wpO, wpT, getV, btW, bmW, bmTy, on1_one, on2_two, onI_int, onB_bl, intW_int, intW_bl, lenW_tup, seqW_tup, lenW_ul, lenW_ud, idxW_ul, seqW_ul, lstW_ul, listW_ul, listW_ud, tupW_ul, onL_ul, atL_ul, setiW_u0, setiW_u1, slcW_ul, Store.upd_upd, lenW_lk, seqW_lk, lstW_lk, listW_lk, slcW_lk, slcW_tup, idxW_lk, listW_tup, tupW_tup, zipW_tup, opS_addI, opS_subI, opS_mulI, opS_fdivI, opS_modI, opS_powI, opS_addT, opS_addS, opW_addI, opW_subI, opW_mulI, opW_addS, ltW_int, ltW_str, ieq_t, ieq_f, ilt_t, ilt_f, ile_t, ile_f, cm_eq, cm_ne, cm_lt, cm_gt, cm_le, cm_ge, cm_in, cm_ni, cm_is, cm_isnt, eqW_int, eqW_str, eqW_bl, idxW_tup, atI_0, atI_1, atI_2, optQ_some, bindT_name, bindT_tup, bindTs_nil, bindTs_cons, wFor_nil, wFor_cons, zipD_cons, zipD_nil, zipD_nil2, List.set_cons_zero, List.set_cons_succ, true_and, and_true, List.length_cons, List.length_nil, Nat.zero_add, Nat.reduceAdd]
  exact mid' _
def spTake : FSp := ⟨2, fun ds S Q _ => ∃ (p : Addr) (m : Int), ds = [.ref p, .int m] ∧ Purse S p ∧ 0 < m ∧ m < 2 ^ 200 ∧ ∀ r S', 0 ≤ r → r < m → Purse S' p → Grew [p] S S' → Q (.int r) S'⟩
theorem k_law_take {C : Env'} : Keeps C b_law_take n_law_take spTake := by
  rintro ds S Q E - ⟨p, m, rfl, ⟨a, b, hp, ha, hb, hc⟩, h1, h2, q⟩
  show wpSs C _ b_law_take [some _, some _, none] S _
  unfold b_law_take
  try simp only [wpSs, wpS, wpI, wpE, wpEs, wpB, wpO, wpT, getV, btW, bmW, bmTy, on1_one, on2_two, onI_int, onB_bl, intW_int, intW_bl, lenW_tup, seqW_tup, lenW_ul, lenW_ud, idxW_ul, seqW_ul, lstW_ul, listW_ul, listW_ud, tupW_ul, onL_ul, atL_ul, setiW_u0, setiW_u1, slcW_ul, Store.upd_upd, lenW_lk, seqW_lk, lstW_lk, listW_lk, slcW_lk, slcW_tup, idxW_lk, listW_tup, tupW_tup, zipW_tup, opS_addI, opS_subI, opS_mulI, opS_fdivI, opS_modI, opS_powI, opS_addT, opS_addS, opW_addI, opW_subI, opW_mulI, opW_addS, ltW_int, ltW_str, ieq_t, ieq_f, ilt_t, ilt_f, ile_t, ile_f, cm_eq, cm_ne, cm_lt, cm_gt, cm_le, cm_ge, cm_in, cm_ni, cm_is, cm_isnt, eqW_int, eqW_str, eqW_bl, idxW_tup, atI_0, atI_1, atI_2, optQ_some, bindT_name, bindT_tup, bindTs_nil, bindTs_cons, wFor_nil, wFor_cons, zipD_cons, zipD_nil, zipD_nil2, List.set_cons_zero, List.set_cons_succ, true_and, and_true, List.length_cons, List.length_nil, Nat.zero_add, Nat.reduceAdd, idxW_lst hp, setiW_0 hp, setiW_1 hp]
  refine ifc (fun c => ⟨h1, cdiv2 h1 h2, Wp.ret (q _ _ (Int.emod_nonneg _ (by omega)) (Int.emod_lt_of_pos _ h1) ⟨_, _, Store.upd_same, ?_, hb, hc⟩ (Grew.at_ (by simp)))⟩) fun c => ?_
  · exact Int.ediv_nonneg ha (by omega)
  · have h5 := Int.emod_nonneg (b * 5851302741139 + 977) (b := 18446744073709551557) (by decide)
    have h6 := Int.emod_lt_of_pos (b * 5851302741139 + 977) (b := 18446744073709551557) (by decide)
    refine ⟨mul_r (by decide) (by decide), by decide, cpow (by decide) (by decide) (by omega), cdiv (by decide) (by decide), h1, Wp.ret (q _ _ (Int.emod_nonneg _ (by omega)) (Int.emod_lt_of_pos _ h1) ⟨_, _, Store.upd_same, ha, by omega, by omega⟩ (Grew.at_ (by simp)))⟩
/-! how many trees -/
def spSize (n : Nat) : FSp := ⟨1, fun ds S Q _ => ∃ g : Grv, ds = [g.d] ∧ g.Ok ∧ g.len ≤ 64 ∧ g.dep < n ∧ g.dep ≤ 42 ∧ Q (.int g.size) S⟩
theorem size_sum : ∀ g : Grv, (g.toL.map fun x => x.2 * (1 + x.1.2.size)).sum = g.size
  | .nil => rfl
  | .cons k h m r => by simp [Grv.toL, Grv.size, size_sum r]
theorem row_mul {x : Grv.Row} {n : Nat} (h : Grv.RowOk n x) (hn : n ≤ 60) : IntMulOk x.2 (1 + x.1.2.size) := by
  obtain ⟨h1, h2, h3, h4, h5, h6⟩ := h
  have e := Grv.size_bits (n := 60) h1 h2 (by omega)
  exact mul_big (k := 180) (j := 190 * 60 + 1) (by omega) e (by decide)
theorem k_size {C : Env'} {n : Nat} (hC : C.fn "size" = some (spSize n)) : Keeps C b_size n_size (spSize (n + 1)) := by
  rintro ds S Q E - ⟨g, rfl, h1, h2, h3, h4, q⟩
  show wpSs C _ b_size [some _, none, none] S _
  unfold b_size
  try simp only [wpSs, wpS, wpI, wpE, wpEs, wpB, wpO, wpT, getV, btW, bmW, bmTy, on1_one, on2_two, onI_int, onB_bl, intW_int, intW_bl, lenW_tup, seqW_tup, lenW_ul, lenW_ud, idxW_ul, seqW_ul, lstW_ul, listW_ul, listW_ud, tupW_ul, onL_ul, atL_ul, setiW_u0, setiW_u1, slcW_ul, Store.upd_upd, lenW_lk, seqW_lk, lstW_lk, listW_lk, slcW_lk, slcW_tup, idxW_lk, listW_tup, tupW_tup, zipW_tup, opS_addI, opS_subI, opS_mulI, opS_fdivI, opS_modI, opS_powI, opS_addT, opS_addS, opW_addI, opW_subI, opW_mulI, opW_addS, ltW_int, ltW_str, ieq_t, ieq_f, ilt_t, ilt_f, ile_t, ile_f, cm_eq, cm_ne, cm_lt, cm_gt, cm_le, cm_ge, cm_in, cm_ni, cm_is, cm_isnt, eqW_int, eqW_str, eqW_bl, idxW_tup, atI_0, atI_1, atI_2, optQ_some, bindT_name, bindT_tup, bindTs_nil, bindTs_cons, wFor_nil, wFor_cons, zipD_cons, zipD_nil, zipD_nil2, List.set_cons_zero, List.set_cons_succ, true_and, and_true, List.length_cons, List.length_nil, Nat.zero_add, Nat.reduceAdd]
  rw [Grv.d_toL]
  try simp only [wpSs, wpS, wpI, wpE, wpEs, wpB, wpO, wpT, getV, btW, bmW, bmTy, on1_one, on2_two, onI_int, onB_bl, intW_int, intW_bl, lenW_tup, seqW_tup, lenW_ul, lenW_ud, idxW_ul, seqW_ul, lstW_ul, listW_ul, listW_ud, tupW_ul, onL_ul, atL_ul, setiW_u0, setiW_u1, slcW_ul, Store.upd_upd, lenW_lk, seqW_lk, lstW_lk, listW_lk, slcW_lk, slcW_tup, idxW_lk, listW_tup, tupW_tup, zipW_tup, opS_addI, opS_subI, opS_mulI, opS_fdivI, opS_modI, opS_powI, opS_addT, opS_addS, opW_addI, opW_subI, opW_mulI, opW_addS, ltW_int, ltW_str, ieq_t, ieq_f, ilt_t, ilt_f, ile_t, ile_f, cm_eq, cm_ne, cm_lt, cm_gt, cm_le, cm_ge, cm_in, cm_ni, cm_is, cm_isnt, eqW_int, eqW_str, eqW_bl, idxW_tup, atI_0, atI_1, atI_2, optQ_some, bindT_name, bindT_tup, bindTs_nil, bindTs_cons, wFor_nil, wFor_cons, zipD_cons, zipD_nil, zipD_nil2, List.set_cons_zero, List.set_cons_succ, true_and, and_true, List.length_cons, List.length_nil, Nat.zero_add, Nat.reduceAdd]
  refine wLc_map Grv.rowD (fun x => .int (x.2 * (1 + x.1.2.size))) trivial _ (fun x hx k1 k2 hk => ?_) _ _ ?_
  · have ho := Grv.ok_toL h1 (Nat.le_refl _) x hx
    have hm := row_mul ho (by omega)
    obtain ⟨o1, o2, o3, o4, o5, o6⟩ := ho
    simp only [wipeR, Grv.rowD, Grv.treeD]
    try simp only [wpSs, wpS, wpI, wpE, wpEs, wpB, wpO, wpT, getV, btW, bmW, bmTy, on1_one, on2_two, onI_int, onB_bl, intW_int, intW_bl, lenW_tup, seqW_tup, lenW_ul, lenW_ud, idxW_ul, seqW_ul, lstW_ul, listW_ul, listW_ud, tupW_ul, onL_ul, atL_ul, setiW_u0, setiW_u1, slcW_ul, Store.upd_upd, lenW_lk, seqW_lk, lstW_lk, listW_lk, slcW_lk, slcW_tup, idxW_lk, listW_tup, tupW_tup, zipW_tup, opS_addI, opS_subI, opS_mulI, opS_fdivI, opS_modI, opS_powI, opS_addT, opS_addS, opW_addI, opW_subI, opW_mulI, opW_addS, ltW_int, ltW_str, ieq_t, ieq_f, ilt_t, ilt_f, ile_t, ile_f, cm_eq, cm_ne, cm_lt, cm_gt, cm_le, cm_ge, cm_in, cm_ni, cm_is, cm_isnt, eqW_int, eqW_str, eqW_bl, idxW_tup, atI_0, atI_1, atI_2, optQ_some, bindT_name, bindT_tup, bindTs_nil, bindTs_cons, wFor_nil, wFor_cons, zipD_cons, zipD_nil, zipD_nil2, List.set_cons_zero, List.set_cons_succ, true_and, and_true, List.length_cons, List.length_nil, Nat.zero_add, Nat.reduceAdd, hC]
    refine ⟨rfl, _, rfl, o1, o2, by omega, by omega, ?_⟩
    try simp only [wpSs, wpS, wpI, wpE, wpEs, wpB, wpO, wpT, getV, btW, bmW, bmTy, on1_one, on2_two, onI_int, onB_bl, intW_int, intW_bl, lenW_tup, seqW_tup, lenW_ul, lenW_ud, idxW_ul, seqW_ul, lstW_ul, listW_ul, listW_ud, tupW_ul, onL_ul, atL_ul, setiW_u0, setiW_u1, slcW_ul, Store.upd_upd, lenW_lk, seqW_lk, lstW_lk, listW_lk, slcW_lk, slcW_tup, idxW_lk, listW_tup, tupW_tup, zipW_tup, opS_addI, opS_subI, opS_mulI, opS_fdivI, opS_modI, opS_powI, opS_addT, opS_addS, opW_addI, opW_subI, opW_mulI, opW_addS, ltW_int, ltW_str, ieq_t, ieq_f, ilt_t, ilt_f, ile_t, ile_f, cm_eq, cm_ne, cm_lt, cm_gt, cm_le, cm_ge, cm_in, cm_ni, cm_is, cm_isnt, eqW_int, eqW_str, eqW_bl, idxW_tup, atI_0, atI_1, atI_2, optQ_some, bindT_name, bindT_tup, bindTs_nil, bindTs_cons, wFor_nil, wFor_cons, zipD_cons, zipD_nil, zipD_nil2, List.set_cons_zero, List.set_cons_succ, true_and, and_true, List.length_cons, List.length_nil, Nat.zero_add, Nat.reduceAdd]
    exact ⟨hm, by simpa using hk⟩
  simp only [List.nil_append, btlW, intsOf_mk, size_sum]
  exact Wp.ret q
theorem size_loop {C : Env'} {n : Nat} (hC : C.fn "_law_size" = some (spSize n)) {S : Store} {E : XW} {A : Option D} {nx : KR} {rt : K1} : ∀ (g : Grv) (f : Int) (b c : Option D), g.Ok → g.dep < n + 1 → g.dep ≤ 42 → (∀ b c, nx [A, some (.int (f + g.size)), b, c] S) →
    wFor (bindT (.tup (.cons (.name 2) (.cons (.name 3) .nil)))) (fun ρ S k => wpSs C E b_law_size_L0 ρ S ⟨k, rt⟩) (fun _ => True) g.enc [A, some (.int f), b, c] S nx
  | .nil, f, b, c, _, _, _, hn => by
    simp only [Grv.enc]
    try simp only [wpSs, wpS, wpI, wpE, wpEs, wpB, wpO, wpT, getV, btW, bmW, bmTy, on1_one, on2_two, onI_int, onB_bl, intW_int, intW_bl, lenW_tup, seqW_tup, lenW_ul, lenW_ud, idxW_ul, seqW_ul, lstW_ul, listW_ul, listW_ud, tupW_ul, onL_ul, atL_ul, setiW_u0, setiW_u1, slcW_ul, Store.upd_upd, lenW_lk, seqW_lk, lstW_lk, listW_lk, slcW_lk, slcW_tup, idxW_lk, listW_tup, tupW_tup, zipW_tup, opS_addI, opS_subI, opS_mulI, opS_fdivI, opS_modI, opS_powI, opS_addT, opS_addS, opW_addI, opW_subI, opW_mulI, opW_addS, ltW_int, ltW_str, ieq_t, ieq_f, ilt_t, ilt_f, ile_t, ile_f, cm_eq, cm_ne, cm_lt, cm_gt, cm_le, cm_ge, cm_in, cm_ni, cm_is, cm_isnt, eqW_int, eqW_str, eqW_bl, idxW_tup, atI_0, atI_1, atI_2, optQ_some, bindT_name, bindT_tup, bindTs_nil, bindTs_cons, wFor_nil, wFor_cons, zipD_cons, zipD_nil, zipD_nil2, List.set_cons_zero, List.set_cons_succ, true_and, and_true, List.length_cons, List.length_nil, Nat.zero_add, Nat.reduceAdd]
    simpa [Grv.size] using hn b c
  | .cons k h m r, f, b, c, h1, h2, h3, hn => by
    have ho := Grv.ok_toL h1 (Nat.le_refl _) ((k, h), m) List.mem_cons_self
    have hm := row_mul ho (by omega)
    have ih := size_loop hC (S := S) (E := E) (A := A) (nx := nx) (rt := rt) r (f + m * (1 + h.size)) (some (Grv.treeD (k, h))) (some (.int m)) h1.2.2.2.2.1 (by simp only [Grv.dep] at h2; omega) (by simp only [Grv.dep] at h3; omega) (fun b c => by
      have := hn b c
      simp only [Grv.size] at this
      rw [Int.add_assoc]; exact this)
    simp only [Grv.dep] at h2 h3
    simp only [Grv.enc]
    rw [wFor_cons]
    try simp only [wpSs, wpS, wpI, wpE, wpEs, wpB, wpO, wpT, getV, btW, bmW, bmTy, on1_one, on2_two, onI_int, onB_bl, intW_int, intW_bl, lenW_tup, seqW_tup, lenW_ul, lenW_ud, idxW_ul, seqW_ul, lstW_ul, listW_ul, listW_ud, tupW_ul, onL_ul, atL_ul, setiW_u0, setiW_u1, slcW_ul, Store.upd_upd, lenW_lk, seqW_lk, lstW_lk, listW_lk, slcW_lk, slcW_tup, idxW_lk, listW_tup, tupW_tup, zipW_tup, opS_addI, opS_subI, opS_mulI, opS_fdivI, opS_modI, opS_powI, opS_addT, opS_addS, opW_addI, opW_subI, opW_mulI, opW_addS, ltW_int, ltW_str, ieq_t, ieq_f, ilt_t, ilt_f, ile_t, ile_f, cm_eq, cm_ne, cm_lt, cm_gt, cm_le, cm_ge, cm_in, cm_ni, cm_is, cm_isnt, eqW_int, eqW_str, eqW_bl, idxW_tup, atI_0, atI_1, atI_2, optQ_some, bindT_name, bindT_tup, bindTs_nil, bindTs_cons, wFor_nil, wFor_cons, zipD_cons, zipD_nil, zipD_nil2, List.set_cons_zero, List.set_cons_succ, true_and, and_true, List.length_cons, List.length_nil, Nat.zero_add, Nat.reduceAdd]
    generalize hk : (fun ρ2 S2 => wFor (bindT (.tup (.cons (.name 2) (.cons (.name 3) .nil)))) (fun ρ S k => wpSs C E b_law_size_L0 ρ S ⟨k, rt⟩) (fun _ => True) r.enc ρ2 S2 nx) = kk
    unfold b_law_size_L0
    try simp only [wpSs, wpS, wpI, wpE, wpEs, wpB, wpO, wpT, getV, btW, bmW, bmTy, on1_one, on2_two, onI_int, onB_bl, intW_int, intW_bl, lenW_tup, seqW_tup, lenW_ul, lenW_ud, idxW_ul, seqW_ul, lstW_ul, listW_ul, listW_ud, tupW_ul, onL_ul, atL_ul, setiW_u0, setiW_u1, slcW_ul, Store.upd_upd, lenW_lk, seqW_lk, lstW_lk, listW_lk, slcW_lk, slcW_tup, idxW_lk, listW_tup, tupW_tup, zipW_tup, opS_addI, opS_subI, opS_mulI, opS_fdivI, opS_modI, opS_powI, opS_addT, opS_addS, opW_addI, opW_subI, opW_mulI, opW_addS, ltW_int, ltW_str, ieq_t, ieq_f, ilt_t, ilt_f, ile_t, ile_f, cm_eq, cm_ne, cm_lt, cm_gt, cm_le, cm_ge, cm_in, cm_ni, cm_is, cm_isnt, eqW_int, eqW_str, eqW_bl, idxW_tup, atI_0, atI_1, atI_2, optQ_some, bindT_name, bindT_tup, bindTs_nil, bindTs_cons, wFor_nil, wFor_cons, zipD_cons, zipD_nil, zipD_nil2, List.set_cons_zero, List.set_cons_succ, true_and, and_true, List.length_cons, List.length_nil, Nat.zero_add, Nat.reduceAdd, hC]
    refine ⟨rfl, h, rfl, h1.1, h1.2.1, by omega, by omega, ?_⟩
    try simp only [wpSs, wpS, wpI, wpE, wpEs, wpB, wpO, wpT, getV, btW, bmW, bmTy, on1_one, on2_two, onI_int, onB_bl, intW_int, intW_bl, lenW_tup, seqW_tup, lenW_ul, lenW_ud, idxW_ul, seqW_ul, lstW_ul, listW_ul, listW_ud, tupW_ul, onL_ul, atL_ul, setiW_u0, setiW_u1, slcW_ul, Store.upd_upd, lenW_lk, seqW_lk, lstW_lk, listW_lk, slcW_lk, slcW_tup, idxW_lk, listW_tup, tupW_tup, zipW_tup, opS_addI, opS_subI, opS_mulI, opS_fdivI, opS_modI, opS_powI, opS_addT, opS_addS, opW_addI, opW_subI, opW_mulI, opW_addS, ltW_int, ltW_str, ieq_t, ieq_f, ilt_t, ilt_f, ile_t, ile_f, cm_eq, cm_ne, cm_lt, cm_gt, cm_le, cm_ge, cm_in, cm_ni, cm_is, cm_isnt, eqW_int, eqW_str, eqW_bl, idxW_tup, atI_0, atI_1, atI_2, optQ_some, bindT_name, bindT_tup, bindTs_nil, bindTs_cons, wFor_nil, wFor_cons, zipD_cons, zipD_nil, zipD_nil2, List.set_cons_zero, List.set_cons_succ, true_and, and_true, List.length_cons, List.length_nil, Nat.zero_add, Nat.reduceAdd]
    refine ⟨hm, ?_⟩
    rw [← hk]
    exact ih
theorem k_law_size {C : Env'} {n : Nat} (hC : C.fn "_law_size" = some (spSize n)) : Keeps C b_law_size n_law_size (spSize (n + 1)) := by
  rintro ds S Q E - ⟨g, rfl, h1, h2, h3, h4, q⟩
  show wpSs C _ b_law_size [some _, none, none, none] S _
  unfold b_law_size
  try simp only [wpSs, wpS, wpI, wpE, wpEs, wpB, wpO, wpT, getV, btW, bmW, bmTy, on1_one, on2_two, onI_int, onB_bl, intW_int, intW_bl, lenW_tup, seqW_tup, lenW_ul, lenW_ud, idxW_ul, seqW_ul, lstW_ul, listW_ul, listW_ud, tupW_ul, onL_ul, atL_ul, setiW_u0, setiW_u1, slcW_ul, Store.upd_upd, lenW_lk, seqW_lk, lstW_lk, listW_lk, slcW_lk, slcW_tup, idxW_lk, listW_tup, tupW_tup, zipW_tup, opS_addI, opS_subI, opS_mulI, opS_fdivI, opS_modI, opS_powI, opS_addT, opS_addS, opW_addI, opW_subI, opW_mulI, opW_addS, ltW_int, ltW_str, ieq_t, ieq_f, ilt_t, ilt_f, ile_t, ile_f, cm_eq, cm_ne, cm_lt, cm_gt, cm_le, cm_ge, cm_in, cm_ni, cm_is, cm_isnt, eqW_int, eqW_str, eqW_bl, idxW_tup, atI_0, atI_1, atI_2, optQ_some, bindT_name, bindT_tup, bindTs_nil, bindTs_cons, wFor_nil, wFor_cons, zipD_cons, zipD_nil, zipD_nil2, List.set_cons_zero, List.set_cons_succ, true_and, and_true, List.length_cons, List.length_nil, Nat.zero_add, Nat.reduceAdd]
  unfold Grv.d
  try simp only [wpSs, wpS, wpI, wpE, wpEs, wpB, wpO, wpT, getV, btW, bmW, bmTy, on1_one, on2_two, onI_int, onB_bl, intW_int, intW_bl, lenW_tup, seqW_tup, lenW_ul, lenW_ud, idxW_ul, seqW_ul, lstW_ul, listW_ul, listW_ud, tupW_ul, onL_ul, atL_ul, setiW_u0, setiW_u1, slcW_ul, Store.upd_upd, lenW_lk, seqW_lk, lstW_lk, listW_lk, slcW_lk, slcW_tup, idxW_lk, listW_tup, tupW_tup, zipW_tup, opS_addI, opS_subI, opS_mulI, opS_fdivI, opS_modI, opS_powI, opS_addT, opS_addS, opW_addI, opW_subI, opW_mulI, opW_addS, ltW_int, ltW_str, ieq_t, ieq_f, ilt_t, ilt_f, ile_t, ile_f, cm_eq, cm_ne, cm_lt, cm_gt, cm_le, cm_ge, cm_in, cm_ni, cm_is, cm_isnt, eqW_int, eqW_str, eqW_bl, idxW_tup, atI_0, atI_1, atI_2, optQ_some, bindT_name, bindT_tup, bindTs_nil, bindTs_cons, wFor_nil, wFor_cons, zipD_cons, zipD_nil, zipD_nil2, List.set_cons_zero, List.set_cons_succ, true_and, and_true, List.length_cons, List.length_nil, Nat.zero_add, Nat.reduceAdd]
  refine size_loop hC g 0 _ _ h1 h3 h4 fun b c => ?_
  try simp only [wpSs, wpS, wpI, wpE, wpEs, wpB, wpO, wpT, getV, btW, bmW, bmTy, on1_one, on2_two, onI_int, onB_bl, intW_int, intW_bl, lenW_tup, seqW_tup, lenW_ul, lenW_ud, idxW_ul, seqW_ul, lstW_ul, listW_ul, listW_ud, tupW_ul, onL_ul, atL_ul, setiW_u0, setiW_u1, slcW_ul, Store.upd_upd, lenW_lk, seqW_lk, lstW_lk, listW_lk, slcW_lk, slcW_tup, idxW_lk, listW_tup, tupW_tup, zipW_tup, opS_addI, opS_subI, opS_mulI, opS_fdivI, opS_modI, opS_powI, opS_addT, opS_addS, opW_addI, opW_subI, opW_mulI, opW_addS, ltW_int, ltW_str, ieq_t, ieq_f, ilt_t, ilt_f, ile_t, ile_f, cm_eq, cm_ne, cm_lt, cm_gt, cm_le, cm_ge, cm_in, cm_ni, cm_is, cm_isnt, eqW_int, eqW_str, eqW_bl, idxW_tup, atI_0, atI_1, atI_2, optQ_some, bindT_name, bindT_tup, bindTs_nil, bindTs_cons, wFor_nil, wFor_cons, zipD_cons, zipD_nil, zipD_nil2, List.set_cons_zero, List.set_cons_succ, true_and, and_true, List.length_cons, List.length_nil, Nat.zero_add, Nat.reduceAdd]
  rw [Int.zero_add]
  exact Wp.ret q
end K68
end

section
set_option maxHeartbeats 8000000
/-! Names as texts; comprehensions whose turns write. -/
namespace Fel
open PySem L2
section
variable {bd : D → Rho → (Rho → Prop) → Prop} {test : Rho → Store → (Bool → Store → Prop) → Prop} {elt : Rho → Store → K1 → Prop} {st : Store → Prop} {ρ : Rho} {k : List D → Store → Prop}
theorem wLc_inv (I : List D → List D → Store → Prop) (hn : ∀ acc S, I [] acc S → st S ∧ k acc S)
    (hs : ∀ x xs acc S (k1 : K1) (k2 : Store → Prop), I (x :: xs) acc S → (∀ y S2, I xs (acc ++ [y]) S2 → k1 y S2) → (∀ S2, I xs acc S2 → k2 S2) → st S ∧ bd x ρ fun ρ1 => test ρ1 S fun b S1 => if b = true then elt ρ1 S1 k1 else k2 S1) :
    ∀ ds S acc, I ds acc S → wLc bd test elt st ρ ds S acc k
  | [], S, acc, h => hn acc S h
  | x :: xs, S, acc, h => hs x xs acc S _ _ h (fun y S2 h2 => wLc_inv I hn hs xs S2 _ h2) fun S2 h2 => wLc_inv I hn hs xs S2 _ h2
end
/-- a short text that can be told -/
def Sh (n : Nat) (z : Str) : Prop := z.length ≤ n ∧ PyData.strOk z = true
theorem Sh.mono {n m : Nat} {z : Str} (h : Sh n z) (hm : n ≤ m) : Sh m z := ⟨by have := h.1; omega, h.2⟩
theorem strOk_mem {z : Str} : PyData.strOk z = true ↔ ∀ c ∈ z.cps.toList, c < 0x110000 := by
  unfold PyData.strOk
  rw [← Array.all_toList, List.all_eq_true]
  simp
theorem Sh.append {n m : Nat} {a b : Str} (h : Sh n a) (h2 : Sh m b) : Sh (n + m) (a ++ b) := by
  refine ⟨by rw [PySem.Str.length_append]; have := h.1; have := h2.1; omega, strOk_mem.2 fun c hc => ?_⟩
  rw [PySem.Str.cps_append, Array.toList_append] at hc
  rcases List.mem_append.1 hc with hc | hc
  · exact strOk_mem.1 h.2 c hc
  · exact strOk_mem.1 h2.2 c hc
theorem Sh.cut {n : Nat} {a : Str} (h : Sh n a) (lo hi : Option Int) : Sh n (cutS a lo hi) := by
  refine ⟨Nat.le_trans (cutS_length a lo hi) h.1, strOk_mem.2 fun c hc => ?_⟩
  have hc : c ∈ ((a.cps.toList.drop (HT.sIx a.length 0 lo)).take (HT.sIx a.length a.length hi - HT.sIx a.length 0 lo)) := by
    simpa [cutS] using hc
  exact strOk_mem.1 h.2 c (List.mem_of_mem_drop (List.mem_of_mem_take hc))
theorem Sh.join : ∀ {ys : List Str}, (∀ y ∈ ys, Sh 1 y) → Sh ys.length (Str.join (Str.ofString "") ys)
  | [], _ => ⟨Nat.le_refl _, by decide +kernel⟩
  | [y], h => h y List.mem_cons_self
  | y :: z :: r, h => by
    have h1 := h y List.mem_cons_self
    have h2 : Sh 0 (Str.ofString "") := ⟨by decide +kernel, by decide +kernel⟩
    have h3 := Sh.join (ys := z :: r) fun x hx => h x (List.mem_cons_of_mem _ hx)
    have := (h1.append h2).append h3
    show Sh _ (y ++ Str.ofString "" ++ Str.join (Str.ofString "") (z :: r))
    exact this.mono (by simp only [List.length_cons]; omega)
theorem strsOf_mk {α : Type} (t : α → Str) : ∀ xs : List α, strsOf (xs.map fun x => .str (t x)) = some (xs.map t)
  | [] => rfl
  | x :: xs => by simp [strsOf, strsOf_mk t xs]
theorem strsOf_strs : ∀ xs : List Str, strsOf (xs.map .str) = some xs
  | [] => rfl
  | x :: xs => by simp [strsOf, strsOf_strs xs]
section
variable {S : Store} {z : Str}
theorem slcW_str (lo hi : Option Int) (Q : K1) : slcW S (.str z) lo hi Q = (z.length ≤ sizeLine ∧ Q (.str (cutS z lo hi)) S) := rfl
theorem idxW_str {n : Nat} (h : Sh n z) (hn : n ≤ 1000) {i : Int} (h0 : 0 ≤ i) (h1 : i < (z.length : Int)) {Q : D → Prop} (hq : ∀ y, Sh 1 y → Q (.str y)) : idxW S (.str z) (.int i) Q := by
  unfold idxW
  refine ⟨by have := h.1; unfold sizeLine; omega, ?_⟩
  rw [atI_nn h0]
  have hl : i.toNat < z.cps.toList.length := by
    have : z.cps.toList.length = z.length := Array.length_toList
    omega
  rw [List.getElem?_eq_getElem hl]
  exact hq _ ⟨Nat.le_refl _, strOk_mem.2 fun c hc => by
    simp only [List.mem_singleton] at hc
    rw [hc]
    exact strOk_mem.1 h.2 _ (List.getElem_mem hl)⟩
theorem joinW_mk {a : Addr} {ys : List Str} (h : S a = some (.lst (ys.map .str))) (hy : ∀ y ∈ ys, Sh 1 y) (hl : ys.length ≤ 1000) {k : Str → Prop} (hk : ∀ z, Sh ys.length z → k z) : joinW S (.ref a) (Str.ofString "") k := by
  unfold joinW
  rw [onL_lst h, strsOf_strs]
  refine ⟨?_, ?_⟩
  · have : (ys.map (·.length)).sum ≤ ys.length := by
      clear h hl hk
      induction ys with
      | nil => simp
      | cons y ys ih =>
        have h1 := (hy y List.mem_cons_self).1
        have h2 := ih fun x hx => hy x (List.mem_cons_of_mem _ hx)
        simp only [List.map_cons, List.sum_cons, List.length_cons]
        omega
    have e : (Str.ofString "").length = 0 := by decide
    rw [e]
    omega
  · rw [show Txt.join (Str.ofString "") ys = Str.join (Str.ofString "") ys from PySem.StrLaws.glued_eq_join _ _]
    exact hk _ (Sh.join hy)
end
section
variable {S : Store} {a b : Addr} {ds : List D}
theorem eqW_lnil (h : S a = some (.lst ds)) (h2 : S b = some (.lst [])) (hp : pures ds = true) (hl : PyData.canLayAll0 (pys ds) = true) (hd : PyData.depthAll (pys ds) ≤ 186) (k : Bool → Prop) : eqW S (.ref a) (.ref b) k = k ds.isEmpty := by
  have e1 : look S (.ref a) = some (.list (pys ds)) := by simp [look, h, hp]
  have e2 : look S (.ref b) = some (.list []) := by simp [look, h2, pures, pys]
  have e3 : (D.ref a).scal = false := rfl
  unfold eqW
  rw [e3, e1, e2]
  have h1 : (PyData.list (pys ds)).depth ≤ 190 := by
    simp only [PyData.depth]
    omega
  have h3 : PyData.eqv (.list (pys ds)) (.list []) = ds.isEmpty := by
    cases ds <;> simp [pys, PyData.eqv, PyData.eqvAll]
  simp only [Bool.false_eq_true, false_and, if_false, PyData.canLay0, hl, PyData.canLayAll0, h1, true_and, h3]
theorem eqW_lsts {es : List D} (h : S a = some (.lst ds)) (h2 : S b = some (.lst es)) (hp : pures ds = true) (hp2 : pures es = true) (hl : PyData.canLayAll0 (pys ds) = true) (hl2 : PyData.canLayAll0 (pys es) = true) (hd : PyData.depthAll (pys ds) ≤ 186) (k : Bool → Prop) : eqW S (.ref a) (.ref b) k = k (PyData.eqvAll (pys ds) (pys es)) := by
  have e1 : look S (.ref a) = some (.list (pys ds)) := by simp [look, h, hp]
  have e2 : look S (.ref b) = some (.list (pys es)) := by simp [look, h2, hp2]
  have e3 : (D.ref a).scal = false := rfl
  unfold eqW
  rw [e3, e1, e2]
  have h1 : (PyData.list (pys ds)).depth ≤ 190 := by
    simp only [PyData.depth]
    omega
  simp only [Bool.false_eq_true, false_and, if_false, PyData.canLay0, hl, hl2, h1, true_and, PyData.eqv]
theorem atI_last {α : Type} (l : List α) (x : α) : atI (l ++ [x]) (-1) = some x := by
  unfold atI ixN
  rw [if_neg (by omega), if_pos (by simp; omega)]
  have e : ((-1 : Int) + ((l ++ [x]).length : Int)).toNat = l.length := by simp only [List.length_append, List.length_singleton]; omega
  rw [e]
  simp
theorem bmW_pop {x : D} {l : List D} (h : S a = some (.lst (l ++ [x]))) (Q : K1) : bmW .pop (.ref a) [] S Q = Q x (S.upd a (.lst l)) := by
  simp only [bmW, atL_lst h, List.length_append, List.length_singleton, Nat.add_sub_cancel, List.getElem?_concat_length, List.dropLast_concat, true_and]
end
namespace Grv
theorem rows_lay {n : Nat} (hn : n ≤ 60) : ∀ {xs : List Row}, (∀ x ∈ xs, RowOk n x) → pures (xs.map rowD) = true ∧ PyData.canLayAll0 (pys (xs.map rowD)) = true ∧ PyData.depthAll (pys (xs.map rowD)) ≤ 186
  | [], _ => ⟨rfl, rfl, by simp [pys, PyData.depthAll]⟩
  | x :: xs, h => by
    obtain ⟨h1, h2, h3⟩ := rows_lay hn (xs := xs) fun y hy => h y (List.mem_cons_of_mem _ hy)
    obtain ⟨o1, o2, o3, o4, o5, o6⟩ := h x List.mem_cons_self
    have e1 := dep_enc x.1.2
    refine ⟨by simp [rowD, treeD, Grv.d, D.pure, pures, pure_enc, h1], by simp [rowD, treeD, Grv.d, D.py, pys, PyData.canLay0, PyData.canLayAll0, lay_enc _ o1.nm, o6, h2], ?_⟩
    simp only [List.map_cons, pys, rowD, treeD, Grv.d, D.py, PyData.depth, PyData.depthAll] at h3 ⊢
    omega
end Grv
end Fel
end

section
set_option maxHeartbeats 8000000
namespace K68
open PySem L2 Fel
/-! tidy -/
def RowB (n : Nat) (B : Int) (x : Grv.Row) : Prop := Grv.RowOk n x ∧ x.2 ≤ B
def spTidy : FSp := ⟨1, fun ds S Q _ => ∃ (a : Addr) (xs : List Grv.Row) (n : Nat) (B : Int), ds = [.ref a] ∧ S a = some (.lst (xs.map Grv.rowD)) ∧ (∀ x ∈ xs, RowB n B x) ∧ n ≤ 60 ∧ xs.length ≤ 64 ∧ 0 ≤ B ∧ xs.length * B < 2 ^ 180 ∧
  ∀ ys S', (∀ y ∈ ys, RowB n (xs.length * B) y) → ys.length ≤ xs.length → Grew [] S S' → Q (Grv.ofL ys).d S'⟩
theorem k_law_tidy {C : Env'} : Keeps C b_law_tidy n_law_tidy spTidy := by
  rintro ds S Q E - ⟨a, xs, n, B, rfl, ha, hx, hn, hl, hB, hB2, q⟩
  show wpSs C _ b_law_tidy [some _, none, none, none] S _
  unfold b_law_tidy
  try simp only [wpSs, wpS, wpI, wpE, wpEs, wpB, wpO, wpT, getV, btW, bmW, bmTy, on1_one, on2_two, onI_int, onB_bl, intW_int, intW_bl, lenW_tup, seqW_tup, lenW_ul, lenW_ud, idxW_ul, seqW_ul, lstW_ul, listW_ul, listW_ud, tupW_ul, onL_ul, atL_ul, setiW_u0, setiW_u1, slcW_ul, Store.upd_upd, lenW_lk, seqW_lk, lstW_lk, listW_lk, slcW_lk, slcW_tup, idxW_lk, listW_tup, tupW_tup, zipW_tup, opS_addI, opS_subI, opS_mulI, opS_fdivI, opS_modI, opS_powI, opS_addT, opS_addS, opW_addI, opW_subI, opW_mulI, opW_addS, ltW_int, ltW_str, ieq_t, ieq_f, ilt_t, ilt_f, ile_t, ile_f, cm_eq, cm_ne, cm_lt, cm_gt, cm_le, cm_ge, cm_in, cm_ni, cm_is, cm_isnt, eqW_int, eqW_str, eqW_bl, idxW_tup, atI_0, atI_1, atI_2, optQ_some, bindT_name, bindT_tup, bindTs_nil, bindTs_cons, wFor_nil, wFor_cons, zipD_cons, zipD_nil, zipD_nil2, List.set_cons_zero, List.set_cons_succ, true_and, and_true, List.length_cons, List.length_nil, Nat.zero_add, Nat.reduceAdd]
  intro f hf
  have hfa : a ≠ f := by rintro rfl; rw [ha] at hf; cases hf
  rw [onL_lst ((Store.upd_ne hfa).trans ha)]
  simp only [btlW]
  refine ⟨Grv.sortOk_rows fun x hx' => by have := (hx x hx').1.2.2.2.2.1; omega, by simp only [List.length_map]; unfold sizeLine; omega, fun s hs => ?_⟩
  obtain ⟨hsf, hs0⟩ := upd_none hs
  obtain ⟨ys, ey, hy, hyl⟩ := sorted_of Grv.rowD _ xs hx
  rw [ey]
  try simp only [wpSs, wpS, wpI, wpE, wpEs, wpB, wpO, wpT, getV, btW, bmW, bmTy, on1_one, on2_two, onI_int, onB_bl, intW_int, intW_bl, lenW_tup, seqW_tup, lenW_ul, lenW_ud, idxW_ul, seqW_ul, lstW_ul, listW_ul, listW_ud, tupW_ul, onL_ul, atL_ul, setiW_u0, setiW_u1, slcW_ul, Store.upd_upd, lenW_lk, seqW_lk, lstW_lk, listW_lk, slcW_lk, slcW_tup, idxW_lk, listW_tup, tupW_tup, zipW_tup, opS_addI, opS_subI, opS_mulI, opS_fdivI, opS_modI, opS_powI, opS_addT, opS_addS, opW_addI, opW_subI, opW_mulI, opW_addS, ltW_int, ltW_str, ieq_t, ieq_f, ilt_t, ilt_f, ile_t, ile_f, cm_eq, cm_ne, cm_lt, cm_gt, cm_le, cm_ge, cm_in, cm_ni, cm_is, cm_isnt, eqW_int, eqW_str, eqW_bl, idxW_tup, atI_0, atI_1, atI_2, optQ_some, bindT_name, bindT_tup, bindTs_nil, bindTs_cons, wFor_nil, wFor_cons, zipD_cons, zipD_nil, zipD_nil2, List.set_cons_zero, List.set_cons_succ, true_and, and_true, List.length_cons, List.length_nil, Nat.zero_add, Nat.reduceAdd]
  refine wFor_inv (fun ds ρ S' => ∃ (zs rs : List Grv.Row) (c : Nat) (u v : Option D), ρ = [some (.ref a), some (.ref f), u, v] ∧ ds = rs.map Grv.rowD ∧ (∀ x ∈ rs, RowB n B x) ∧ S' f = some (.lst (zs.map Grv.rowD)) ∧ S' s = some (.lst (ys.map Grv.rowD)) ∧ (∀ z ∈ zs, Grv.RowOk n z ∧ z.2 ≤ c * B) ∧ zs.length ≤ c ∧ c + rs.length = xs.length ∧ Grew [] S S') ?_ ?_ _ _ _
    ⟨[], ys, 0, none, none, rfl, rfl, hy, by rw [Store.upd_ne hsf.symm, Store.upd_same]; rfl, Store.upd_same, by simp, Nat.le_refl _, by omega, (Grew.new hf).thenFresh hs0⟩
  · rintro _ S1 ⟨zs, rs, c, u, v, rfl, e0, hrs, h1, h2, hz, hzl, hc, g⟩
    refine ⟨h2, ?_⟩
    try simp only [wpSs, wpS, wpI, wpE, wpEs, wpB, wpO, wpT, getV, btW, bmW, bmTy, on1_one, on2_two, onI_int, onB_bl, intW_int, intW_bl, lenW_tup, seqW_tup, lenW_ul, lenW_ud, idxW_ul, seqW_ul, lstW_ul, listW_ul, listW_ud, tupW_ul, onL_ul, atL_ul, setiW_u0, setiW_u1, slcW_ul, Store.upd_upd, lenW_lk, seqW_lk, lstW_lk, listW_lk, slcW_lk, slcW_tup, idxW_lk, listW_tup, tupW_tup, zipW_tup, opS_addI, opS_subI, opS_mulI, opS_fdivI, opS_modI, opS_powI, opS_addT, opS_addS, opW_addI, opW_subI, opW_mulI, opW_addS, ltW_int, ltW_str, ieq_t, ieq_f, ilt_t, ilt_f, ile_t, ile_f, cm_eq, cm_ne, cm_lt, cm_gt, cm_le, cm_ge, cm_in, cm_ni, cm_is, cm_isnt, eqW_int, eqW_str, eqW_bl, idxW_tup, atI_0, atI_1, atI_2, optQ_some, bindT_name, bindT_tup, bindTs_nil, bindTs_cons, wFor_nil, wFor_cons, zipD_cons, zipD_nil, zipD_nil2, List.set_cons_zero, List.set_cons_succ, true_and, and_true, List.length_cons, List.length_nil, Nat.zero_add, Nat.reduceAdd, tupW_lst h1]
    rw [Grv.d_ofL]
    have e : rs = [] := by cases rs with | nil => rfl | cons _ _ => cases e0
    subst e
    simp only [List.length_nil, Nat.add_zero] at hc
    exact Wp.ret (q _ _ (fun y h => ⟨(hz y h).1, by rw [← hc]; exact (hz y h).2⟩) (by omega) g)
  · rintro d ds ρ S1 k ⟨zs, rs, c, u, v, rfl, e0, hrs, h1, h2, hz, hzl, hc, g⟩ hk
    refine ⟨h2, ?_⟩
    rcases rs with _ | ⟨⟨t, m⟩, rs⟩
    · cases e0
    simp only [List.map_cons, List.cons.injEq] at e0
    obtain ⟨rfl, rfl⟩ := e0
    obtain ⟨hr, hmB⟩ := hrs _ List.mem_cons_self
    have hrs' : ∀ x ∈ rs, RowB n B x := fun x h => hrs x (List.mem_cons_of_mem _ h)
    simp only [List.length_cons] at hc
    simp only [Grv.rowD]
    try simp only [wpSs, wpS, wpI, wpE, wpEs, wpB, wpO, wpT, getV, btW, bmW, bmTy, on1_one, on2_two, onI_int, onB_bl, intW_int, intW_bl, lenW_tup, seqW_tup, lenW_ul, lenW_ud, idxW_ul, seqW_ul, lstW_ul, listW_ul, listW_ud, tupW_ul, onL_ul, atL_ul, setiW_u0, setiW_u1, slcW_ul, Store.upd_upd, lenW_lk, seqW_lk, lstW_lk, listW_lk, slcW_lk, slcW_tup, idxW_lk, listW_tup, tupW_tup, zipW_tup, opS_addI, opS_subI, opS_mulI, opS_fdivI, opS_modI, opS_powI, opS_addT, opS_addS, opW_addI, opW_subI, opW_mulI, opW_addS, ltW_int, ltW_str, ieq_t, ieq_f, ilt_t, ilt_f, ile_t, ile_f, cm_eq, cm_ne, cm_lt, cm_gt, cm_le, cm_ge, cm_in, cm_ni, cm_is, cm_isnt, eqW_int, eqW_str, eqW_bl, idxW_tup, atI_0, atI_1, atI_2, optQ_some, bindT_name, bindT_tup, bindTs_nil, bindTs_cons, wFor_nil, wFor_cons, zipD_cons, zipD_nil, zipD_nil2, List.set_cons_zero, List.set_cons_succ, true_and, and_true, List.length_cons, List.length_nil, Nat.zero_add, Nat.reduceAdd]
    unfold b_law_tidy_L0
    have hcB : ((c + 1 : Nat) : Int) * B = c * B + B := by rw [Int.natCast_add, Int.add_mul]; simp
    have hcT : ((c + 1 : Nat) : Int) * B ≤ xs.length * B := Int.mul_le_mul_of_nonneg_right (by omega) hB
    have fin : ∀ (ws : List Grv.Row) (m' : Int) (S2 : Store), S2 f = some (.lst (ws.map Grv.rowD)) → S2 s = some (.lst (ys.map Grv.rowD)) → (∀ z ∈ ws, Grv.RowOk n z ∧ z.2 ≤ c * B) → ws.length ≤ c → 1 ≤ m' → m' ≤ ((c + 1 : Nat) : Int) * B → Grew [] S S2 →
        (onL S2 (.ref f) fun _ => True) ∧ atL S2 (.ref f) fun a_1 ds => ds.length < sizeLine ∧ k [some (.ref a), some (.ref f), some (Grv.treeD t), some (.int m')] (S2.upd a_1 (.lst (ds ++ [.tup [Grv.treeD t, .int m']]))) := by
      intro ws m' S2 w1 w2 w3 w4 w5 w6 w7
      rw [onL_lst w1, atL_lst w1]
      refine ⟨trivial, by simp only [List.length_map]; unfold sizeLine; omega, hk _ _ ⟨ws ++ [(t, m')], rs, c + 1, _, _, rfl, rfl, hrs', by rw [Store.upd_same]; simp [Grv.rowD], by rw [Store.upd_ne hsf]; exact w2, ?_, by simp only [List.length_append, List.length_singleton]; omega, by omega, w7.thenFresh hf⟩⟩
      intro z hz'
      rcases List.mem_append.1 hz' with h | h
      · exact ⟨(w3 z h).1, by have := (w3 z h).2; omega⟩
      · simp only [List.mem_singleton] at h
        subst h
        obtain ⟨r1, r2, r3, r4, r5, r6⟩ := hr
        exact ⟨⟨r1, r2, w5, by simp only; omega, r5, r6⟩, w6⟩
    have m1 : 1 ≤ m := hr.2.2.1
    have hcB0 : 0 ≤ (c : Int) * B := Int.mul_nonneg (by omega) hB
    try simp only [wpSs, wpS, wpI, wpE, wpEs, wpB, wpO, wpT, getV, btW, bmW, bmTy, on1_one, on2_two, onI_int, onB_bl, intW_int, intW_bl, lenW_tup, seqW_tup, lenW_ul, lenW_ud, idxW_ul, seqW_ul, lstW_ul, listW_ul, listW_ud, tupW_ul, onL_ul, atL_ul, setiW_u0, setiW_u1, slcW_ul, Store.upd_upd, lenW_lk, seqW_lk, lstW_lk, listW_lk, slcW_lk, slcW_tup, idxW_lk, listW_tup, tupW_tup, zipW_tup, opS_addI, opS_subI, opS_mulI, opS_fdivI, opS_modI, opS_powI, opS_addT, opS_addS, opW_addI, opW_subI, opW_mulI, opW_addS, ltW_int, ltW_str, ieq_t, ieq_f, ilt_t, ilt_f, ile_t, ile_f, cm_eq, cm_ne, cm_lt, cm_gt, cm_le, cm_ge, cm_in, cm_ni, cm_is, cm_isnt, eqW_int, eqW_str, eqW_bl, idxW_tup, atI_0, atI_1, atI_2, optQ_some, bindT_name, bindT_tup, bindTs_nil, bindTs_cons, wFor_nil, wFor_cons, zipD_cons, zipD_nil, zipD_nil2, List.set_cons_zero, List.set_cons_succ, true_and, and_true, List.length_cons, List.length_nil, Nat.zero_add, Nat.reduceAdd]
    intro e he
    have hef : f ≠ e := by rintro rfl; rw [h1] at he; cases he
    have hes : s ≠ e := by rintro rfl; rw [h2] at he; cases he
    have g1 : (S1.upd e (.lst [])) f = some (.lst (zs.map Grv.rowD)) := (Store.upd_ne hef).trans h1
    have g2 : (S1.upd e (.lst [])) s = some (.lst (ys.map Grv.rowD)) := (Store.upd_ne hes).trans h2
    have gg : Grew [] S (S1.upd e (.lst [])) := g.thenNew he
    have g3 : (S1.upd e (.lst [])) e = some (.lst []) := Store.upd_same
    generalize S1.upd e (.lst []) = S2 at *
    obtain ⟨l1, l2, l3⟩ := Grv.rows_lay hn (xs := zs) fun z h => (hz z h).1
    rw [eqW_lnil g1 g3 l1 l2 l3]
    rcases List.eq_nil_or_concat zs with rfl | ⟨ws, w, rfl⟩
    · simp only [List.map_nil, List.isEmpty_nil, Bool.not_true, Bool.false_eq_true, if_false]
      exact fin [] m S2 g1 g2 (by simp) (by simp) m1 (by omega) gg
    · rw [List.concat_eq_append] at *
      simp only [List.map_append, List.map_cons, List.map_nil] at g1 ⊢
      have e1 : (List.map Grv.rowD ws ++ [Grv.rowD w]).isEmpty = false := by simp
      rw [e1]
      simp only [Bool.not_false, if_true]
      rw [idxW_lst g1, Fel.atI_last]
      simp only [Grv.rowD]
      try simp only [wpSs, wpS, wpI, wpE, wpEs, wpB, wpO, wpT, getV, btW, bmW, bmTy, on1_one, on2_two, onI_int, onB_bl, intW_int, intW_bl, lenW_tup, seqW_tup, lenW_ul, lenW_ud, idxW_ul, seqW_ul, lstW_ul, listW_ul, listW_ud, tupW_ul, onL_ul, atL_ul, setiW_u0, setiW_u1, slcW_ul, Store.upd_upd, lenW_lk, seqW_lk, lstW_lk, listW_lk, slcW_lk, slcW_tup, idxW_lk, listW_tup, tupW_tup, zipW_tup, opS_addI, opS_subI, opS_mulI, opS_fdivI, opS_modI, opS_powI, opS_addT, opS_addS, opW_addI, opW_subI, opW_mulI, opW_addS, ltW_int, ltW_str, ieq_t, ieq_f, ilt_t, ilt_f, ile_t, ile_f, cm_eq, cm_ne, cm_lt, cm_gt, cm_le, cm_ge, cm_in, cm_ni, cm_is, cm_isnt, eqW_int, eqW_str, eqW_bl, idxW_tup, atI_0, atI_1, atI_2, optQ_some, bindT_name, bindT_tup, bindTs_nil, bindTs_cons, wFor_nil, wFor_cons, zipD_cons, zipD_nil, zipD_nil2, List.set_cons_zero, List.set_cons_succ, true_and, and_true, List.length_cons, List.length_nil, Nat.zero_add, Nat.reduceAdd]
      have hw := hz w (by simp)
      refine Grv.eqW_tree (by have := hw.1.2.2.2.2.1; omega) ⟨hw.1.2.2.2.2.2, hw.1.1.nm⟩ ⟨hr.2.2.2.2.2, hr.1.nm⟩ fun b => ?_
      cases b with
      | false =>
        simp only [Bool.false_eq_true, if_false]
        exact fin (ws ++ [w]) m S2 (by simpa [Grv.rowD] using g1) g2 hz hzl m1 (by omega) gg
      | true =>
        simp only [if_true]
        rw [onL_lst g1]
        refine ⟨trivial, ?_⟩
        rw [atL_lst g1]
        simp only [List.length_append, List.length_singleton, Nat.add_sub_cancel, List.dropLast_concat, List.length_cons, List.length_nil, List.getElem?_concat_length, true_and]
        simp only [Grv.rowD]
        try simp only [wpSs, wpS, wpI, wpE, wpEs, wpB, wpO, wpT, getV, btW, bmW, bmTy, on1_one, on2_two, onI_int, onB_bl, intW_int, intW_bl, lenW_tup, seqW_tup, lenW_ul, lenW_ud, idxW_ul, seqW_ul, lstW_ul, listW_ul, listW_ud, tupW_ul, onL_ul, atL_ul, setiW_u0, setiW_u1, slcW_ul, Store.upd_upd, lenW_lk, seqW_lk, lstW_lk, listW_lk, slcW_lk, slcW_tup, idxW_lk, listW_tup, tupW_tup, zipW_tup, opS_addI, opS_subI, opS_mulI, opS_fdivI, opS_modI, opS_powI, opS_addT, opS_addS, opW_addI, opW_subI, opW_mulI, opW_addS, ltW_int, ltW_str, ieq_t, ieq_f, ilt_t, ilt_f, ile_t, ile_f, cm_eq, cm_ne, cm_lt, cm_gt, cm_le, cm_ge, cm_in, cm_ni, cm_is, cm_isnt, eqW_int, eqW_str, eqW_bl, idxW_tup, atI_0, atI_1, atI_2, optQ_some, bindT_name, bindT_tup, bindTs_nil, bindTs_cons, wFor_nil, wFor_cons, zipD_cons, zipD_nil, zipD_nil2, List.set_cons_zero, List.set_cons_succ, true_and, and_true, List.length_cons, List.length_nil, Nat.zero_add, Nat.reduceAdd]
        have hwm := hw.1.2.2.1
        have := fin ws (m + w.2) _ Store.upd_same (by rw [Store.upd_ne hsf]; exact g2) (fun z h => hz z (by simp [h])) (by simp only [List.length_append, List.length_singleton] at hzl; omega) (by omega) (by rw [hcB]; have := hw.2; omega) (gg.thenFresh hf)
        try simp only [wpSs, wpS, wpI, wpE, wpEs, wpB, wpO, wpT, getV, btW, bmW, bmTy, on1_one, on2_two, onI_int, onB_bl, intW_int, intW_bl, lenW_tup, seqW_tup, lenW_ul, lenW_ud, idxW_ul, seqW_ul, lstW_ul, listW_ul, listW_ud, tupW_ul, onL_ul, atL_ul, setiW_u0, setiW_u1, slcW_ul, Store.upd_upd, lenW_lk, seqW_lk, lstW_lk, listW_lk, slcW_lk, slcW_tup, idxW_lk, listW_tup, tupW_tup, zipW_tup, opS_addI, opS_subI, opS_mulI, opS_fdivI, opS_modI, opS_powI, opS_addT, opS_addS, opW_addI, opW_subI, opW_mulI, opW_addS, ltW_int, ltW_str, ieq_t, ieq_f, ilt_t, ilt_f, ile_t, ile_f, cm_eq, cm_ne, cm_lt, cm_gt, cm_le, cm_ge, cm_in, cm_ni, cm_is, cm_isnt, eqW_int, eqW_str, eqW_bl, idxW_tup, atI_0, atI_1, atI_2, optQ_some, bindT_name, bindT_tup, bindTs_nil, bindTs_cons, wFor_nil, wFor_cons, zipD_cons, zipD_nil, zipD_nil2, List.set_cons_zero, List.set_cons_succ, true_and, and_true, List.length_cons, List.length_nil, Nat.zero_add, Nat.reduceAdd] at this
        exact this
end K68
end

section
set_option maxHeartbeats 8000000
namespace K68
open PySem L2 Fel
def letters : Str := Str.ofString "abcdefghijklmnopqrstuvwxyz"
theorem sh_letters : Sh 26 letters := ⟨by decide +kernel, by decide +kernel⟩
theorem len_letters : letters.length = 26 := by decide +kernel
def spNames : FSp := ⟨1, fun ds S Q _ => ∃ (p : Addr), ds = [.ref p] ∧ Purse S p ∧ ∀ (r : Addr) (zs : List Str) S', zs ≠ [] → zs.length ≤ 16 → (∀ z ∈ zs, PyData.strOk z = true) → S' r = some (.lst (zs.map .str)) → r ≠ p → Purse S' p → Grew [p] S S' → Q (.ref r) S'⟩
theorem rng_map (n : Nat) : rngD 0 n = (List.range n).map fun (i : Nat) => D.int (0 + i) := rfl
theorem k_law_names {C : Env'} (hC : C.fn "_law_take" = some spTake) : Keeps C b_law_names n_law_names spNames := by
  rintro ds S Q E - ⟨p, rfl, hp, q⟩
  show wpSs C _ b_law_names [some _, none, none, none, none, none, none, none, none, none, none, none] S _
  unfold b_law_names
  try simp only [wpSs, wpS, wpI, wpE, wpEs, wpB, wpO, wpT, getV, btW, bmW, bmTy, on1_one, on2_two, onI_int, onB_bl, intW_int, intW_bl, lenW_tup, seqW_tup, lenW_ul, lenW_ud, idxW_ul, seqW_ul, lstW_ul, listW_ul, listW_ud, tupW_ul, onL_ul, atL_ul, setiW_u0, setiW_u1, slcW_ul, Store.upd_upd, lenW_lk, seqW_lk, lstW_lk, listW_lk, slcW_lk, slcW_tup, idxW_lk, listW_tup, tupW_tup, zipW_tup, opS_addI, opS_subI, opS_mulI, opS_fdivI, opS_modI, opS_powI, opS_addT, opS_addS, opW_addI, opW_subI, opW_mulI, opW_addS, ltW_int, ltW_str, ieq_t, ieq_f, ilt_t, ilt_f, ile_t, ile_f, cm_eq, cm_ne, cm_lt, cm_gt, cm_le, cm_ge, cm_in, cm_ni, cm_is, cm_isnt, eqW_int, eqW_str, eqW_bl, idxW_tup, atI_0, atI_1, atI_2, optQ_some, bindT_name, bindT_tup, bindTs_nil, bindTs_cons, wFor_nil, wFor_cons, zipD_cons, zipD_nil, zipD_nil2, List.set_cons_zero, List.set_cons_succ, true_and, and_true, List.length_cons, List.length_nil, Nat.zero_add, Nat.reduceAdd]
  refine ⟨by decide, by decide, by decide, ?_⟩
  refine wLc_inv (fun ds acc S' => ∃ ys : List Str, acc = ys.map .str ∧ (∀ y ∈ ys, Sh 1 y) ∧ ys.length + ds.length = 8 ∧ Purse S' p ∧ Grew [p] S S') ?_ ?_ _ _ _ ⟨[], rfl, by simp, by simp [rngD], hp, Grew.refl⟩
  · rintro _ S1 ⟨ys, rfl, hy, hl, hp1, g1⟩
    refine ⟨trivial, fun a ha => ?_⟩
    simp only [List.length_nil, Nat.add_zero] at hl
    refine joinW_mk Store.upd_same hy (by omega) fun z hz => ?_
    have hap : a ≠ p := by rintro rfl; exact hp1.ne ha
    have hp2 := hp1.grew (Grew.new (o := .lst (ys.map .str)) ha (l := [])) (by simp)
    have g2 : Grew [p] S (S1.upd a (.lst (ys.map .str))) := g1.thenNew ha
    generalize S1.upd a (.lst (ys.map .str)) = S2 at *
    try simp only [wpSs, wpS, wpI, wpE, wpEs, wpB, wpO, wpT, getV, btW, bmW, bmTy, on1_one, on2_two, onI_int, onB_bl, intW_int, intW_bl, lenW_tup, seqW_tup, lenW_ul, lenW_ud, idxW_ul, seqW_ul, lstW_ul, listW_ul, listW_ud, tupW_ul, onL_ul, atL_ul, setiW_u0, setiW_u1, slcW_ul, Store.upd_upd, lenW_lk, seqW_lk, lstW_lk, listW_lk, slcW_lk, slcW_tup, idxW_lk, listW_tup, tupW_tup, zipW_tup, opS_addI, opS_subI, opS_mulI, opS_fdivI, opS_modI, opS_powI, opS_addT, opS_addS, opW_addI, opW_subI, opW_mulI, opW_addS, ltW_int, ltW_str, ieq_t, ieq_f, ilt_t, ilt_f, ile_t, ile_f, cm_eq, cm_ne, cm_lt, cm_gt, cm_le, cm_ge, cm_in, cm_ni, cm_is, cm_isnt, eqW_int, eqW_str, eqW_bl, idxW_tup, atI_0, atI_1, atI_2, optQ_some, bindT_name, bindT_tup, bindTs_nil, bindTs_cons, wFor_nil, wFor_cons, zipD_cons, zipD_nil, zipD_nil2, List.set_cons_zero, List.set_cons_succ, true_and, and_true, List.length_cons, List.length_nil, Nat.zero_add, Nat.reduceAdd, hC]
    refine ⟨rfl, p, 8, rfl, hp2, by decide, by decide, fun m S3 m1 m2 hp3 g3 => ?_⟩
    try simp only [wpSs, wpS, wpI, wpE, wpEs, wpB, wpO, wpT, getV, btW, bmW, bmTy, on1_one, on2_two, onI_int, onB_bl, intW_int, intW_bl, lenW_tup, seqW_tup, lenW_ul, lenW_ud, idxW_ul, seqW_ul, lstW_ul, listW_ul, listW_ud, tupW_ul, onL_ul, atL_ul, setiW_u0, setiW_u1, slcW_ul, Store.upd_upd, lenW_lk, seqW_lk, lstW_lk, listW_lk, slcW_lk, slcW_tup, idxW_lk, listW_tup, tupW_tup, zipW_tup, opS_addI, opS_subI, opS_mulI, opS_fdivI, opS_modI, opS_powI, opS_addT, opS_addS, opW_addI, opW_subI, opW_mulI, opW_addS, ltW_int, ltW_str, ieq_t, ieq_f, ilt_t, ilt_f, ile_t, ile_f, cm_eq, cm_ne, cm_lt, cm_gt, cm_le, cm_ge, cm_in, cm_ni, cm_is, cm_isnt, eqW_int, eqW_str, eqW_bl, idxW_tup, atI_0, atI_1, atI_2, optQ_some, bindT_name, bindT_tup, bindTs_nil, bindTs_cons, wFor_nil, wFor_cons, zipD_cons, zipD_nil, zipD_nil2, List.set_cons_zero, List.set_cons_succ, true_and, and_true, List.length_cons, List.length_nil, Nat.zero_add, Nat.reduceAdd, hC]
    refine ⟨rfl, p, 1 + m, rfl, hp3, by omega, by omega, fun t S4 t1 t2 hp4 g4 => ?_⟩
    try simp only [wpSs, wpS, wpI, wpE, wpEs, wpB, wpO, wpT, getV, btW, bmW, bmTy, on1_one, on2_two, onI_int, onB_bl, intW_int, intW_bl, lenW_tup, seqW_tup, lenW_ul, lenW_ud, idxW_ul, seqW_ul, lstW_ul, listW_ul, listW_ud, tupW_ul, onL_ul, atL_ul, setiW_u0, setiW_u1, slcW_ul, Store.upd_upd, lenW_lk, seqW_lk, lstW_lk, listW_lk, slcW_lk, slcW_tup, idxW_lk, listW_tup, tupW_tup, zipW_tup, opS_addI, opS_subI, opS_mulI, opS_fdivI, opS_modI, opS_powI, opS_addT, opS_addS, opW_addI, opW_subI, opW_mulI, opW_addS, ltW_int, ltW_str, ieq_t, ieq_f, ilt_t, ilt_f, ile_t, ile_f, cm_eq, cm_ne, cm_lt, cm_gt, cm_le, cm_ge, cm_in, cm_ni, cm_is, cm_isnt, eqW_int, eqW_str, eqW_bl, idxW_tup, atI_0, atI_1, atI_2, optQ_some, bindT_name, bindT_tup, bindTs_nil, bindTs_cons, wFor_nil, wFor_cons, zipD_cons, zipD_nil, zipD_nil2, List.set_cons_zero, List.set_cons_succ, true_and, and_true, List.length_cons, List.length_nil, Nat.zero_add, Nat.reduceAdd, hC]
    refine ⟨rfl, p, 3, rfl, hp4, by decide, by decide, fun w S5 w1 w2 hp5 g5 => ?_⟩
    have g6 : Grew [p] S S5 := g2.trans (g3.trans (g4.trans g5))
    try simp only [wpSs, wpS, wpI, wpE, wpEs, wpB, wpO, wpT, getV, btW, bmW, bmTy, on1_one, on2_two, onI_int, onB_bl, intW_int, intW_bl, lenW_tup, seqW_tup, lenW_ul, lenW_ud, idxW_ul, seqW_ul, lstW_ul, listW_ul, listW_ud, tupW_ul, onL_ul, atL_ul, setiW_u0, setiW_u1, slcW_ul, Store.upd_upd, lenW_lk, seqW_lk, lstW_lk, listW_lk, slcW_lk, slcW_tup, idxW_lk, listW_tup, tupW_tup, zipW_tup, opS_addI, opS_subI, opS_mulI, opS_fdivI, opS_modI, opS_powI, opS_addT, opS_addS, opW_addI, opW_subI, opW_mulI, opW_addS, ltW_int, ltW_str, ieq_t, ieq_f, ilt_t, ilt_f, ile_t, ile_f, cm_eq, cm_ne, cm_lt, cm_gt, cm_le, cm_ge, cm_in, cm_ni, cm_is, cm_isnt, eqW_int, eqW_str, eqW_bl, idxW_tup, atI_0, atI_1, atI_2, optQ_some, bindT_name, bindT_tup, bindTs_nil, bindTs_cons, wFor_nil, wFor_cons, zipD_cons, zipD_nil, zipD_nil2, List.set_cons_zero, List.set_cons_succ, true_and, and_true, List.length_cons, List.length_nil, Nat.zero_add, Nat.reduceAdd, hC]
    have fin : ∀ (zs : List Str) (r : Addr) (S6 : Store) (A B C' D' : Option D), zs.length = (1 + m).toNat → (∀ z ∈ zs, PyData.strOk z = true) → S6 r = none → r ≠ p → Purse S6 p → Grew [p] S S6 → 
        ((fun d => True) (0 : Nat)) → ∀ p_1, (S6.upd r (.lst (zs.map D.str))) p_1 = none → ∀ p_2, ((S6.upd r (.lst (zs.map D.str))).upd p_1 (.lst (cutD (zs.map D.str) (some t) none))) p_2 = none → 
        (cutD (zs.map D.str) (some t) none).length + (cutD (zs.map D.str) none (some t)).length ≤ sizeLine ∧ ∀ p_3, (((S6.upd r (.lst (zs.map D.str))).upd p_1 (.lst (cutD (zs.map D.str) (some t) none))).upd p_2 (.lst (cutD (zs.map D.str) none (some t)))) p_3 = none → 
        ∃ S'', Sub S'' ((((S6.upd r (.lst (zs.map D.str))).upd p_1 (.lst (cutD (zs.map D.str) (some t) none))).upd p_2 (.lst (cutD (zs.map D.str) none (some t)))).upd p_3 (.lst (cutD (zs.map D.str) (some t) none ++ cutD (zs.map D.str) none (some t)))) ∧ Q (.ref p_3) S'' := by
      intro zs r S6 A B C' D' z1 z2 z3 z4 z5 z6 _ p1 h1 p2 h2
      have l1 : (cutD zs (some t) none).length = zs.length - t.toNat := by
        unfold cutD
        have : HT.sIx zs.length 0 (some t) = t.toNat := by
          show (if t < 0 then _ else min t.toNat zs.length) = _
          rw [if_neg (by omega)]; omega
        rw [this]
        simp only [HT.sIx, List.length_take, List.length_drop]
        omega
      have l2 := cutD_len zs none (i := t) t1
      refine ⟨by rw [cutD_map, cutD_map, List.length_map, List.length_map, l1]; unfold sizeLine; omega, fun p3 h3 => Wp.ret ?_⟩
      obtain ⟨h31, h32⟩ := upd_none h3
      obtain ⟨h33, h34⟩ := upd_none h32
      obtain ⟨h35, h36⟩ := upd_none h34
      refine q p3 (cutD zs (some t) none ++ cutD zs none (some t)) _ ?_ ?_ ?_ ?_ (by rintro rfl; exact z5.ne h36) ?_ ?_
      · intro z
        have := congrArg List.length z
        simp only [List.length_append, List.length_nil, l1] at this
        omega
      · simp only [List.length_append, l1]; omega
      · intro z hz
        rcases List.mem_append.1 hz with h | h
        · exact z2 z (List.mem_of_mem_drop (List.mem_of_mem_take h))
        · exact z2 z (List.mem_of_mem_drop (List.mem_of_mem_take h))
      · rw [Store.upd_same, cutD_map, cutD_map, List.map_append]
      · exact z5.grew (((((Grew.new z3 (l := [])).thenNew h1).thenNew h2).thenNew h3)) (by simp)
      · exact (((z6.thenNew z3).thenNew h1).thenNew h2).thenNew h3
    refine ifc (fun c => ?_) fun c => ?_
    · refine ⟨by omega, by omega, by omega, ?_⟩
      rw [rng_map]
      refine wLc_map (fun (i : Nat) => D.int (0 + i)) (fun i => .str (cutS z none (some (0 + (i : Int) + 1)))) trivial _ (fun x hx k1 k2 hk => ?_) _ _ ?_
      · simp only [wipeR]
        try simp only [wpSs, wpS, wpI, wpE, wpEs, wpB, wpO, wpT, getV, btW, bmW, bmTy, on1_one, on2_two, onI_int, onB_bl, intW_int, intW_bl, lenW_tup, seqW_tup, lenW_ul, lenW_ud, idxW_ul, seqW_ul, lstW_ul, listW_ul, listW_ud, tupW_ul, onL_ul, atL_ul, setiW_u0, setiW_u1, slcW_ul, Store.upd_upd, lenW_lk, seqW_lk, lstW_lk, listW_lk, slcW_lk, slcW_tup, idxW_lk, listW_tup, tupW_tup, zipW_tup, opS_addI, opS_subI, opS_mulI, opS_fdivI, opS_modI, opS_powI, opS_addT, opS_addS, opW_addI, opW_subI, opW_mulI, opW_addS, ltW_int, ltW_str, ieq_t, ieq_f, ilt_t, ilt_f, ile_t, ile_f, cm_eq, cm_ne, cm_lt, cm_gt, cm_le, cm_ge, cm_in, cm_ni, cm_is, cm_isnt, eqW_int, eqW_str, eqW_bl, idxW_tup, atI_0, atI_1, atI_2, optQ_some, bindT_name, bindT_tup, bindTs_nil, bindTs_cons, wFor_nil, wFor_cons, zipD_cons, zipD_nil, zipD_nil2, List.set_cons_zero, List.set_cons_succ, true_and, and_true, List.length_cons, List.length_nil, Nat.zero_add, Nat.reduceAdd]
        refine ⟨by have := hz.1; unfold sizeLine; omega, ?_⟩
        simpa using hk
      simp only [List.nil_append]
      intro r hr
      try simp only [wpSs, wpS, wpI, wpE, wpEs, wpB, wpO, wpT, getV, btW, bmW, bmTy, on1_one, on2_two, onI_int, onB_bl, intW_int, intW_bl, lenW_tup, seqW_tup, lenW_ul, lenW_ud, idxW_ul, seqW_ul, lstW_ul, listW_ul, listW_ud, tupW_ul, onL_ul, atL_ul, setiW_u0, setiW_u1, slcW_ul, Store.upd_upd, lenW_lk, seqW_lk, lstW_lk, listW_lk, slcW_lk, slcW_tup, idxW_lk, listW_tup, tupW_tup, zipW_tup, opS_addI, opS_subI, opS_mulI, opS_fdivI, opS_modI, opS_powI, opS_addT, opS_addS, opW_addI, opW_subI, opW_mulI, opW_addS, ltW_int, ltW_str, ieq_t, ieq_f, ilt_t, ilt_f, ile_t, ile_f, cm_eq, cm_ne, cm_lt, cm_gt, cm_le, cm_ge, cm_in, cm_ni, cm_is, cm_isnt, eqW_int, eqW_str, eqW_bl, idxW_tup, atI_0, atI_1, atI_2, optQ_some, bindT_name, bindT_tup, bindTs_nil, bindTs_cons, wFor_nil, wFor_cons, zipD_cons, zipD_nil, zipD_nil2, List.set_cons_zero, List.set_cons_succ, true_and, and_true, List.length_cons, List.length_nil, Nat.zero_add, Nat.reduceAdd]
      have e : ((List.range (1 + m).toNat).map fun (i : Nat) => D.str (cutS z none (some (0 + (i : Int) + 1)))) = ((List.range (1 + m).toNat).map fun (i : Nat) => cutS z none (some (0 + (i : Int) + 1))).map D.str := by rw [List.map_map]; rfl
      rw [e]
      intro p1 h1
      obtain ⟨h11, h12⟩ := upd_none h1
      rw [slcW_lst ((Store.upd_ne h11.symm).trans Store.upd_same)]
      intro p2 h2
      have h21 := (upd_none h2).1
      rw [opS_addL ((Store.upd_ne h21.symm).trans Store.upd_same) Store.upd_same]
      exact fin _ r S5 none none none none (by simp) (fun y hy => by obtain ⟨i, _, rfl⟩ := List.mem_map.1 hy; exact (hz.cut _ _).2) hr (by rintro rfl; exact hp5.ne hr) hp5 g6 trivial p1 h1 p2 h2
    · refine ⟨rfl, p, 8, rfl, hp5, by decide, by decide, fun lg S6 lg1 lg2 hp6 g7 => ?_⟩
      try simp only [wpSs, wpS, wpI, wpE, wpEs, wpB, wpO, wpT, getV, btW, bmW, bmTy, on1_one, on2_two, onI_int, onB_bl, intW_int, intW_bl, lenW_tup, seqW_tup, lenW_ul, lenW_ud, idxW_ul, seqW_ul, lstW_ul, listW_ul, listW_ud, tupW_ul, onL_ul, atL_ul, setiW_u0, setiW_u1, slcW_ul, Store.upd_upd, lenW_lk, seqW_lk, lstW_lk, listW_lk, slcW_lk, slcW_tup, idxW_lk, listW_tup, tupW_tup, zipW_tup, opS_addI, opS_subI, opS_mulI, opS_fdivI, opS_modI, opS_powI, opS_addT, opS_addS, opW_addI, opW_subI, opW_mulI, opW_addS, ltW_int, ltW_str, ieq_t, ieq_f, ilt_t, ilt_f, ile_t, ile_f, cm_eq, cm_ne, cm_lt, cm_gt, cm_le, cm_ge, cm_in, cm_ni, cm_is, cm_isnt, eqW_int, eqW_str, eqW_bl, idxW_tup, atI_0, atI_1, atI_2, optQ_some, bindT_name, bindT_tup, bindTs_nil, bindTs_cons, wFor_nil, wFor_cons, zipD_cons, zipD_nil, zipD_nil2, List.set_cons_zero, List.set_cons_succ, true_and, and_true, List.length_cons, List.length_nil, Nat.zero_add, Nat.reduceAdd, hC]
      refine ⟨rfl, p, 1 + lg, rfl, hp6, by omega, by omega, fun at' S7 at1 at2 hp7 g8 => ?_⟩
      try simp only [wpSs, wpS, wpI, wpE, wpEs, wpB, wpO, wpT, getV, btW, bmW, bmTy, on1_one, on2_two, onI_int, onB_bl, intW_int, intW_bl, lenW_tup, seqW_tup, lenW_ul, lenW_ud, idxW_ul, seqW_ul, lstW_ul, listW_ul, listW_ud, tupW_ul, onL_ul, atL_ul, setiW_u0, setiW_u1, slcW_ul, Store.upd_upd, lenW_lk, seqW_lk, lstW_lk, listW_lk, slcW_lk, slcW_tup, idxW_lk, listW_tup, tupW_tup, zipW_tup, opS_addI, opS_subI, opS_mulI, opS_fdivI, opS_modI, opS_powI, opS_addT, opS_addS, opW_addI, opW_subI, opW_mulI, opW_addS, ltW_int, ltW_str, ieq_t, ieq_f, ilt_t, ilt_f, ile_t, ile_f, cm_eq, cm_ne, cm_lt, cm_gt, cm_le, cm_ge, cm_in, cm_ni, cm_is, cm_isnt, eqW_int, eqW_str, eqW_bl, idxW_tup, atI_0, atI_1, atI_2, optQ_some, bindT_name, bindT_tup, bindTs_nil, bindTs_cons, wFor_nil, wFor_cons, zipD_cons, zipD_nil, zipD_nil2, List.set_cons_zero, List.set_cons_succ, true_and, and_true, List.length_cons, List.length_nil, Nat.zero_add, Nat.reduceAdd, hC]
      refine ⟨rfl, p, 26, rfl, hp7, by decide, by decide, fun fs S8 fs1 fs2 hp8 g9 => ?_⟩
      try simp only [wpSs, wpS, wpI, wpE, wpEs, wpB, wpO, wpT, getV, btW, bmW, bmTy, on1_one, on2_two, onI_int, onB_bl, intW_int, intW_bl, lenW_tup, seqW_tup, lenW_ul, lenW_ud, idxW_ul, seqW_ul, lstW_ul, listW_ul, listW_ud, tupW_ul, onL_ul, atL_ul, setiW_u0, setiW_u1, slcW_ul, Store.upd_upd, lenW_lk, seqW_lk, lstW_lk, listW_lk, slcW_lk, slcW_tup, idxW_lk, listW_tup, tupW_tup, zipW_tup, opS_addI, opS_subI, opS_mulI, opS_fdivI, opS_modI, opS_powI, opS_addT, opS_addS, opW_addI, opW_subI, opW_mulI, opW_addS, ltW_int, ltW_str, ieq_t, ieq_f, ilt_t, ilt_f, ile_t, ile_f, cm_eq, cm_ne, cm_lt, cm_gt, cm_le, cm_ge, cm_in, cm_ni, cm_is, cm_isnt, eqW_int, eqW_str, eqW_bl, idxW_tup, atI_0, atI_1, atI_2, optQ_some, bindT_name, bindT_tup, bindTs_nil, bindTs_cons, wFor_nil, wFor_cons, zipD_cons, zipD_nil, zipD_nil2, List.set_cons_zero, List.set_cons_succ, true_and, and_true, List.length_cons, List.length_nil, Nat.zero_add, Nat.reduceAdd, hC]
      have g10 : Grew [p] S S8 := g6.trans (g7.trans (g8.trans g9))
      refine ⟨by omega, by omega, by omega, ?_⟩
      refine wLc_inv (fun ds acc S' => S' = S8 ∧ (∃ ys : List Str, acc = ys.map .str ∧ (∀ y ∈ ys, Sh 1 y) ∧ ys.length + ds.length = (1 + m).toNat) ∧ ∀ d ∈ ds, ∃ i : Nat, d = .int (0 + i)) ?_ ?_ _ _ _ ⟨rfl, ⟨[], rfl, by simp, by simp [rngD]⟩, fun d hd => by obtain ⟨i, _, rfl⟩ := List.mem_map.1 hd; exact ⟨i, rfl⟩⟩
      · rintro _ _ ⟨rfl, ⟨ys, rfl, hy, hyl⟩, -⟩
        refine ⟨trivial, fun b hb => ?_⟩
        simp only [List.length_nil, Nat.add_zero] at hyl
        try simp only [wpSs, wpS, wpI, wpE, wpEs, wpB, wpO, wpT, getV, btW, bmW, bmTy, on1_one, on2_two, onI_int, onB_bl, intW_int, intW_bl, lenW_tup, seqW_tup, lenW_ul, lenW_ud, idxW_ul, seqW_ul, lstW_ul, listW_ul, listW_ud, tupW_ul, onL_ul, atL_ul, setiW_u0, setiW_u1, slcW_ul, Store.upd_upd, lenW_lk, seqW_lk, lstW_lk, listW_lk, slcW_lk, slcW_tup, idxW_lk, listW_tup, tupW_tup, zipW_tup, opS_addI, opS_subI, opS_mulI, opS_fdivI, opS_modI, opS_powI, opS_addT, opS_addS, opW_addI, opW_subI, opW_mulI, opW_addS, ltW_int, ltW_str, ieq_t, ieq_f, ilt_t, ilt_f, ile_t, ile_f, cm_eq, cm_ne, cm_lt, cm_gt, cm_le, cm_ge, cm_in, cm_ni, cm_is, cm_isnt, eqW_int, eqW_str, eqW_bl, idxW_tup, atI_0, atI_1, atI_2, optQ_some, bindT_name, bindT_tup, bindTs_nil, bindTs_cons, wFor_nil, wFor_cons, zipD_cons, zipD_nil, zipD_nil2, List.set_cons_zero, List.set_cons_succ, true_and, and_true, List.length_cons, List.length_nil, Nat.zero_add, Nat.reduceAdd]
        refine wLc_map D.str (fun y => .str (cutS z none (some at') ++ y ++ cutS z (some (at' + 1)) (some (1 + lg)))) Store.upd_same _ (fun x hx k1 k2 hk => ?_) _ _ ?_
        · simp only [wipeR]
          try simp only [wpSs, wpS, wpI, wpE, wpEs, wpB, wpO, wpT, getV, btW, bmW, bmTy, on1_one, on2_two, onI_int, onB_bl, intW_int, intW_bl, lenW_tup, seqW_tup, lenW_ul, lenW_ud, idxW_ul, seqW_ul, lstW_ul, listW_ul, listW_ud, tupW_ul, onL_ul, atL_ul, setiW_u0, setiW_u1, slcW_ul, Store.upd_upd, lenW_lk, seqW_lk, lstW_lk, listW_lk, slcW_lk, slcW_tup, idxW_lk, listW_tup, tupW_tup, zipW_tup, opS_addI, opS_subI, opS_mulI, opS_fdivI, opS_modI, opS_powI, opS_addT, opS_addS, opW_addI, opW_subI, opW_mulI, opW_addS, ltW_int, ltW_str, ieq_t, ieq_f, ilt_t, ilt_f, ile_t, ile_f, cm_eq, cm_ne, cm_lt, cm_gt, cm_le, cm_ge, cm_in, cm_ni, cm_is, cm_isnt, eqW_int, eqW_str, eqW_bl, idxW_tup, atI_0, atI_1, atI_2, optQ_some, bindT_name, bindT_tup, bindTs_nil, bindTs_cons, wFor_nil, wFor_cons, zipD_cons, zipD_nil, zipD_nil2, List.set_cons_zero, List.set_cons_succ, true_and, and_true, List.length_cons, List.length_nil, Nat.zero_add, Nat.reduceAdd, slcW_str]
          have hzl := hz.1
          have c1 := (hz.cut none (some at')).1
          have c2 := (hz.cut (some (at' + 1)) (some (1 + lg))).1
          have c3 := (hy x hx).1
          refine ⟨by unfold sizeLine; omega, by unfold sizeLine; omega, by unfold sizeLine; omega, by rw [PySem.Str.length_append]; unfold sizeLine; omega, ?_⟩
          simpa using hk
        simp only [List.nil_append]
        intro r hr
        obtain ⟨hrb, hr8⟩ := upd_none hr
        try simp only [wpSs, wpS, wpI, wpE, wpEs, wpB, wpO, wpT, getV, btW, bmW, bmTy, on1_one, on2_two, onI_int, onB_bl, intW_int, intW_bl, lenW_tup, seqW_tup, lenW_ul, lenW_ud, idxW_ul, seqW_ul, lstW_ul, listW_ul, listW_ud, tupW_ul, onL_ul, atL_ul, setiW_u0, setiW_u1, slcW_ul, Store.upd_upd, lenW_lk, seqW_lk, lstW_lk, listW_lk, slcW_lk, slcW_tup, idxW_lk, listW_tup, tupW_tup, zipW_tup, opS_addI, opS_subI, opS_mulI, opS_fdivI, opS_modI, opS_powI, opS_addT, opS_addS, opW_addI, opW_subI, opW_mulI, opW_addS, ltW_int, ltW_str, ieq_t, ieq_f, ilt_t, ilt_f, ile_t, ile_f, cm_eq, cm_ne, cm_lt, cm_gt, cm_le, cm_ge, cm_in, cm_ni, cm_is, cm_isnt, eqW_int, eqW_str, eqW_bl, idxW_tup, atI_0, atI_1, atI_2, optQ_some, bindT_name, bindT_tup, bindTs_nil, bindTs_cons, wFor_nil, wFor_cons, zipD_cons, zipD_nil, zipD_nil2, List.set_cons_zero, List.set_cons_succ, true_and, and_true, List.length_cons, List.length_nil, Nat.zero_add, Nat.reduceAdd]
        have e : (ys.map fun y => D.str (cutS z none (some at') ++ y ++ cutS z (some (at' + 1)) (some (1 + lg)))) = (ys.map fun y => cutS z none (some at') ++ y ++ cutS z (some (at' + 1)) (some (1 + lg))).map D.str := by rw [List.map_map]; rfl
        rw [e]
        intro p1 h1
        obtain ⟨h11, h12⟩ := upd_none h1
        rw [slcW_lst ((Store.upd_ne h11.symm).trans Store.upd_same)]
        intro p2 h2
        have h21 := (upd_none h2).1
        rw [opS_addL ((Store.upd_ne h21.symm).trans Store.upd_same) Store.upd_same]
        exact fin _ r _ none none none none (by simp [hyl]) (fun y hy' => by obtain ⟨i, hi, rfl⟩ := List.mem_map.1 hy'; exact (((hz.cut _ _).append (hy i hi)).append (hz.cut _ _)).2) hr (by rintro rfl; exact hp8.ne hr8) (hp8.grew (Grew.new hb (l := [])) (by simp)) (g10.thenNew hb) trivial p1 h1 p2 h2
      · rintro d ds acc _ k1 k2 ⟨rfl, ⟨ys, rfl, hy, hyl⟩, hd⟩ hk1 hk2
        refine ⟨trivial, ?_⟩
        obtain ⟨i, rfl⟩ := hd _ List.mem_cons_self
        simp only [List.length_cons] at hyl
        simp only [wipeR]
        try simp only [wpSs, wpS, wpI, wpE, wpEs, wpB, wpO, wpT, getV, btW, bmW, bmTy, on1_one, on2_two, onI_int, onB_bl, intW_int, intW_bl, lenW_tup, seqW_tup, lenW_ul, lenW_ud, idxW_ul, seqW_ul, lstW_ul, listW_ul, listW_ud, tupW_ul, onL_ul, atL_ul, setiW_u0, setiW_u1, slcW_ul, Store.upd_upd, lenW_lk, seqW_lk, lstW_lk, listW_lk, slcW_lk, slcW_tup, idxW_lk, listW_tup, tupW_tup, zipW_tup, opS_addI, opS_subI, opS_mulI, opS_fdivI, opS_modI, opS_powI, opS_addT, opS_addS, opW_addI, opW_subI, opW_mulI, opW_addS, ltW_int, ltW_str, ieq_t, ieq_f, ilt_t, ilt_f, ile_t, ile_f, cm_eq, cm_ne, cm_lt, cm_gt, cm_le, cm_ge, cm_in, cm_ni, cm_is, cm_isnt, eqW_int, eqW_str, eqW_bl, idxW_tup, atI_0, atI_1, atI_2, optQ_some, bindT_name, bindT_tup, bindTs_nil, bindTs_cons, wFor_nil, wFor_cons, zipD_cons, zipD_nil, zipD_nil2, List.set_cons_zero, List.set_cons_succ, true_and, and_true, List.length_cons, List.length_nil, Nat.zero_add, Nat.reduceAdd]
        refine ⟨mul_l (by decide) (by decide), by decide, ?_⟩
        refine idxW_str sh_letters (by decide) (Int.emod_nonneg _ (by decide)) (by rw [len_letters]; exact Int.emod_lt_of_pos _ (by decide)) fun y hy' => hk1 _ _ ⟨rfl, ⟨ys ++ [y], by simp, ?_, by simp only [List.length_append, List.length_singleton]; omega⟩, fun d h => hd d (List.mem_cons_of_mem _ h)⟩
        intro x hx
        rcases List.mem_append.1 hx with h | h
        · exact hy x h
        · simp only [List.mem_singleton] at h; subst h; exact hy'
  · rintro d ds acc S1 k1 k2 ⟨ys, rfl, hy, hl, hp1, g1⟩ hk1 hk2
    refine ⟨trivial, ?_⟩
    simp only [List.length_cons] at hl
    simp only [wipeR]
    try simp only [wpSs, wpS, wpI, wpE, wpEs, wpB, wpO, wpT, getV, btW, bmW, bmTy, on1_one, on2_two, onI_int, onB_bl, intW_int, intW_bl, lenW_tup, seqW_tup, lenW_ul, lenW_ud, idxW_ul, seqW_ul, lstW_ul, listW_ul, listW_ud, tupW_ul, onL_ul, atL_ul, setiW_u0, setiW_u1, slcW_ul, Store.upd_upd, lenW_lk, seqW_lk, lstW_lk, listW_lk, slcW_lk, slcW_tup, idxW_lk, listW_tup, tupW_tup, zipW_tup, opS_addI, opS_subI, opS_mulI, opS_fdivI, opS_modI, opS_powI, opS_addT, opS_addS, opW_addI, opW_subI, opW_mulI, opW_addS, ltW_int, ltW_str, ieq_t, ieq_f, ilt_t, ilt_f, ile_t, ile_f, cm_eq, cm_ne, cm_lt, cm_gt, cm_le, cm_ge, cm_in, cm_ni, cm_is, cm_isnt, eqW_int, eqW_str, eqW_bl, idxW_tup, atI_0, atI_1, atI_2, optQ_some, bindT_name, bindT_tup, bindTs_nil, bindTs_cons, wFor_nil, wFor_cons, zipD_cons, zipD_nil, zipD_nil2, List.set_cons_zero, List.set_cons_succ, true_and, and_true, List.length_cons, List.length_nil, Nat.zero_add, Nat.reduceAdd, hC]
    refine ⟨rfl, p, 26, rfl, hp1, by decide, by decide, fun r S2 r1 r2 hp2 g2 => ?_⟩
    refine idxW_str sh_letters (by decide) r1 (by rw [len_letters]; exact r2) fun y hy' => hk1 _ _ ⟨ys ++ [y], by simp, ?_, by simp only [List.length_append, List.length_singleton]; omega, hp2, g1.trans g2⟩
    intro x hx
    rcases List.mem_append.1 hx with h | h
    · exact hy x h
    · simp only [List.mem_singleton] at h; subst h; exact hy'
end K68
end

section
set_option maxHeartbeats 8000000
namespace K68
open PySem L2 Fel
def spGrove : FSp := ⟨6, fun ds S Q _ => ∃ (is : List Int) (m : Int) (nm : Addr) (gr : Int) (zs : List Str), ds = [.lk (is.map .int), .int 2, .int m, .ref nm, .int gr, .int 12] ∧ 0 ≤ m ∧ m ≤ 40 ∧ zs ≠ [] ∧ zs.length ≤ 16 ∧ (∀ z ∈ zs, PyData.strOk z = true) ∧ S nm = some (.lst (zs.map .str)) ∧ 1 ≤ gr ∧ gr ≤ 10 ^ 50 ∧
  ∀ ys S', (∀ y ∈ ys, RowB 41 (40 * 10 ^ 50) y) → ys.length ≤ 40 → Grew [] S S' → Q (Grv.ofL ys).d S'⟩
abbrev R3 := Int × Str × Int
def r3D (x : R3) : D := .tup [.int x.1, .str x.2.1, .int x.2.2]
def R3ok (m : Nat) (x : R3) : Prop := -1 ≤ x.1 ∧ x.1 < m ∧ PyData.strOk x.2.1 = true ∧ 1 ≤ x.2.2 ∧ x.2.2 ≤ 10 ^ 50
theorem grove_one {C : Env'} (h1 : C.fn "_law_purse" = some spPurse) (h2 : C.fn "_law_take" = some spTake) {S : Store} {E : XW} {rt : K1} {is ns : List Int} {t M : Nat} {nm r6 r7 : Addr} {gr : Int} {zs : List Str} {xs : List R3} {a b c d e f g : Option D} {k : KR} 
    (ht : t < M) (hM : M ≤ 40) (hz : zs ≠ []) (hz2 : zs.length ≤ 16) (hzo : ∀ z ∈ zs, PyData.strOk z = true) (hnm : S nm = some (.lst (zs.map .str))) (hg1 : 1 ≤ gr) (hg2 : gr ≤ 10 ^ 50) (h6 : S r6 = some (.lst (xs.map r3D))) (h7 : S r7 = some (.lst (ns.map .int))) (h67 : r6 ≠ r7)
    (hx : ∀ x ∈ xs, R3ok M x) (hxl : xs.length = t) (hnl : ns.length = t)
    (hk : ∀ (x : R3) (n : Int) S' S1 a b c d, R3ok M x → Grew [] S S' → S1 = (S'.upd r6 (.lst ((xs ++ [x]).map r3D))).upd r7 (.lst ((ns ++ [n]).map .int)) → k [some (.lk (is.map .int)), some (.int 2), some (.int M), some (.ref nm), some (.int gr), some (.int 12), some (.ref r6), some (.ref r7), some (.int (0 + t)), e, a, b, c, d, g] S1) :
    wpSs C E b_law_grove_L1 [some (.lk (is.map .int)), some (.int 2), some (.int M), some (.ref nm), some (.int gr), some (.int 12), some (.ref r6), some (.ref r7), some (.int (0 + t)), e, a, b, c, d, g] S ⟨k, rt⟩ := by
  unfold b_law_grove_L1
  try simp only [wpSs, wpS, wpI, wpE, wpEs, wpB, wpO, wpT, getV, btW, bmW, bmTy, on1_one, on2_two, onI_int, onB_bl, intW_int, intW_bl, lenW_tup, seqW_tup, lenW_ul, lenW_ud, idxW_ul, seqW_ul, lstW_ul, listW_ul, listW_ud, tupW_ul, onL_ul, atL_ul, setiW_u0, setiW_u1, slcW_ul, Store.upd_upd, lenW_lk, seqW_lk, lstW_lk, listW_lk, slcW_lk, slcW_tup, idxW_lk, listW_tup, tupW_tup, zipW_tup, opS_addI, opS_subI, opS_mulI, opS_fdivI, opS_modI, opS_powI, opS_addT, opS_addS, opW_addI, opW_subI, opW_mulI, opW_addS, ltW_int, ltW_str, ieq_t, ieq_f, ilt_t, ilt_f, ile_t, ile_f, cm_eq, cm_ne, cm_lt, cm_gt, cm_le, cm_ge, cm_in, cm_ni, cm_is, cm_isnt, eqW_int, eqW_str, eqW_bl, idxW_tup, atI_0, atI_1, atI_2, optQ_some, bindT_name, bindT_tup, bindTs_nil, bindTs_cons, wFor_nil, wFor_cons, zipD_cons, zipD_nil, zipD_nil2, List.set_cons_zero, List.set_cons_succ, true_and, and_true, List.length_cons, List.length_nil, Nat.zero_add, Nat.reduceAdd, h1, h2]
  refine ⟨rfl, is, _, rfl, by omega, by omega, fun p S1 hp hp1 g1 => ?_⟩
  try simp only [wpSs, wpS, wpI, wpE, wpEs, wpB, wpO, wpT, getV, btW, bmW, bmTy, on1_one, on2_two, onI_int, onB_bl, intW_int, intW_bl, lenW_tup, seqW_tup, lenW_ul, lenW_ud, idxW_ul, seqW_ul, lstW_ul, listW_ul, listW_ud, tupW_ul, onL_ul, atL_ul, setiW_u0, setiW_u1, slcW_ul, Store.upd_upd, lenW_lk, seqW_lk, lstW_lk, listW_lk, slcW_lk, slcW_tup, idxW_lk, listW_tup, tupW_tup, zipW_tup, opS_addI, opS_subI, opS_mulI, opS_fdivI, opS_modI, opS_powI, opS_addT, opS_addS, opW_addI, opW_subI, opW_mulI, opW_addS, ltW_int, ltW_str, ieq_t, ieq_f, ilt_t, ilt_f, ile_t, ile_f, cm_eq, cm_ne, cm_lt, cm_gt, cm_le, cm_ge, cm_in, cm_ni, cm_is, cm_isnt, eqW_int, eqW_str, eqW_bl, idxW_tup, atI_0, atI_1, atI_2, optQ_some, bindT_name, bindT_tup, bindTs_nil, bindTs_cons, wFor_nil, wFor_cons, zipD_cons, zipD_nil, zipD_nil2, List.set_cons_zero, List.set_cons_succ, true_and, and_true, List.length_cons, List.length_nil, Nat.zero_add, Nat.reduceAdd, h1, h2]
  refine ⟨rfl, p, _, rfl, hp1, by omega, by omega, fun ho S2 o1 o2 hp2 g2 => ?_⟩
  have np : ∀ {z : Addr} {o : Ob}, S z = some o → z ∉ [p] := fun h => by simp; rintro rfl; rw [hp] at h; cases h
  have nm2 := g2 _ _ (np hnm) (g1 _ _ (by simp) hnm)
  have r62 := g2 _ _ (np h6) (g1 _ _ (by simp) h6)
  have r72 := g2 _ _ (np h7) (g1 _ _ (by simp) h7)
  have G2 : Grew [] S S2 := (g1.sub (l' := [p]) (by simp) |>.trans g2).sub (by simpa using hp)
  have fin : ∀ h : Int, -1 ≤ h → h < t → wpSs C E (.cons (.set (.name 12) (.idx (.var 3) (.call "_law_take" (.cons (.var 10) (.cons (.bt .len (.cons (.var 3) .nil)) .nil))))) (
  .cons (.set (.name 13) (.op .add (.con (.int 1)) (.call "_law_take" (.cons (.var 10) (.cons (.idx (.lst (.cons (.con (.int 1)) (.cons (.con (.int 1)) (.cons (.con (.int 3)) (.cons (.var 4) .nil))))) (.call "_law_take" (.cons (.var 10) (.cons (.con (.int 4)) .nil)))) .nil))))) (
  .cons (.ex (.bm .append (.var 6) (.cons (.tup (.cons (.var 11) (.cons (.var 12) (.cons (.var 13) .nil)))) .nil))) (
  .cons (.ex (.bm .append (.var 7) (.cons (.op .add (.con (.int 1)) (.idx (.op .add (.lst (.cons (.con (.int 0)) .nil)) (.var 7)) (.op .add (.var 11) (.con (.int 1))))) .nil))) .nil)))) [some (.lk (is.map .int)), some (.int 2), some (.int M), some (.ref nm), some (.int gr), some (.int 12), some (.ref r6), some (.ref r7), some (.int (0 + t)), e, some (.ref p), some (.int h), c, d, g] S2 ⟨k, rt⟩ := by
    intro h hh1 hh2
    try simp only [wpSs, wpS, wpI, wpE, wpEs, wpB, wpO, wpT, getV, btW, bmW, bmTy, on1_one, on2_two, onI_int, onB_bl, intW_int, intW_bl, lenW_tup, seqW_tup, lenW_ul, lenW_ud, idxW_ul, seqW_ul, lstW_ul, listW_ul, listW_ud, tupW_ul, onL_ul, atL_ul, setiW_u0, setiW_u1, slcW_ul, Store.upd_upd, lenW_lk, seqW_lk, lstW_lk, listW_lk, slcW_lk, slcW_tup, idxW_lk, listW_tup, tupW_tup, zipW_tup, opS_addI, opS_subI, opS_mulI, opS_fdivI, opS_modI, opS_powI, opS_addT, opS_addS, opW_addI, opW_subI, opW_mulI, opW_addS, ltW_int, ltW_str, ieq_t, ieq_f, ilt_t, ilt_f, ile_t, ile_f, cm_eq, cm_ne, cm_lt, cm_gt, cm_le, cm_ge, cm_in, cm_ni, cm_is, cm_isnt, eqW_int, eqW_str, eqW_bl, idxW_tup, atI_0, atI_1, atI_2, optQ_some, bindT_name, bindT_tup, bindTs_nil, bindTs_cons, wFor_nil, wFor_cons, zipD_cons, zipD_nil, zipD_nil2, List.set_cons_zero, List.set_cons_succ, true_and, and_true, List.length_cons, List.length_nil, Nat.zero_add, Nat.reduceAdd, h2, lenW_lst nm2]
    have hzp : 0 < zs.length := List.length_pos_iff.2 hz
    refine ⟨rfl, p, _, rfl, hp2, by simp only [List.length_map]; omega, by simp only [List.length_map]; omega, fun w S3 w1 w2 hp3 g3 => ?_⟩
    simp only [List.length_map] at w2
    have nm3 := g3 _ _ (np hnm) nm2
    rw [idxW_lst nm3, atI_nn w1, List.getElem?_map, List.getElem?_eq_getElem (by omega)]
    simp only [Option.map_some, optQ_some]
    try simp only [wpSs, wpS, wpI, wpE, wpEs, wpB, wpO, wpT, getV, btW, bmW, bmTy, on1_one, on2_two, onI_int, onB_bl, intW_int, intW_bl, lenW_tup, seqW_tup, lenW_ul, lenW_ud, idxW_ul, seqW_ul, lstW_ul, listW_ul, listW_ud, tupW_ul, onL_ul, atL_ul, setiW_u0, setiW_u1, slcW_ul, Store.upd_upd, lenW_lk, seqW_lk, lstW_lk, listW_lk, slcW_lk, slcW_tup, idxW_lk, listW_tup, tupW_tup, zipW_tup, opS_addI, opS_subI, opS_mulI, opS_fdivI, opS_modI, opS_powI, opS_addT, opS_addS, opW_addI, opW_subI, opW_mulI, opW_addS, ltW_int, ltW_str, ieq_t, ieq_f, ilt_t, ilt_f, ile_t, ile_f, cm_eq, cm_ne, cm_lt, cm_gt, cm_le, cm_ge, cm_in, cm_ni, cm_is, cm_isnt, eqW_int, eqW_str, eqW_bl, idxW_tup, atI_0, atI_1, atI_2, optQ_some, bindT_name, bindT_tup, bindTs_nil, bindTs_cons, wFor_nil, wFor_cons, zipD_cons, zipD_nil, zipD_nil2, List.set_cons_zero, List.set_cons_succ, true_and, and_true, List.length_cons, List.length_nil, Nat.zero_add, Nat.reduceAdd, h2]
    intro l hl
    have hp3' := hp3.grew (Grew.new (o := .lst [.int 1, .int 1, .int 3, .int gr]) hl (l := [])) (by simp)
    refine ⟨rfl, p, 4, rfl, hp3', by decide, by decide, fun v S4 v1 v2 hp4 g4 => ?_⟩
    have hlp : l ≠ p := by rintro rfl; exact hp3.ne hl
    have l4 : S4 l = some (.lst [.int 1, .int 1, .int 3, .int gr]) := g4 _ _ (by simpa using hlp) Store.upd_same
    try simp only [wpSs, wpS, wpI, wpE, wpEs, wpB, wpO, wpT, getV, btW, bmW, bmTy, on1_one, on2_two, onI_int, onB_bl, intW_int, intW_bl, lenW_tup, seqW_tup, lenW_ul, lenW_ud, idxW_ul, seqW_ul, lstW_ul, listW_ul, listW_ud, tupW_ul, onL_ul, atL_ul, setiW_u0, setiW_u1, slcW_ul, Store.upd_upd, lenW_lk, seqW_lk, lstW_lk, listW_lk, slcW_lk, slcW_tup, idxW_lk, listW_tup, tupW_tup, zipW_tup, opS_addI, opS_subI, opS_mulI, opS_fdivI, opS_modI, opS_powI, opS_addT, opS_addS, opW_addI, opW_subI, opW_mulI, opW_addS, ltW_int, ltW_str, ieq_t, ieq_f, ilt_t, ilt_f, ile_t, ile_f, cm_eq, cm_ne, cm_lt, cm_gt, cm_le, cm_ge, cm_in, cm_ni, cm_is, cm_isnt, eqW_int, eqW_str, eqW_bl, idxW_tup, atI_0, atI_1, atI_2, optQ_some, bindT_name, bindT_tup, bindTs_nil, bindTs_cons, wFor_nil, wFor_cons, zipD_cons, zipD_nil, zipD_nil2, List.set_cons_zero, List.set_cons_succ, true_and, and_true, List.length_cons, List.length_nil, Nat.zero_add, Nat.reduceAdd, idxW_lst l4]
    have hw : ∃ k : Int, atI [D.int 1, D.int 1, D.int 3, D.int gr] v = some (.int k) ∧ 0 < k ∧ k ≤ 10 ^ 50 := by
      have : v = 0 ∨ v = 1 ∨ v = 2 ∨ v = 3 := by omega
      rcases this with rfl | rfl | rfl | rfl
      · exact ⟨1, rfl, by decide, by decide⟩
      · exact ⟨1, rfl, by decide, by decide⟩
      · exact ⟨3, rfl, by decide, by decide⟩
      · exact ⟨gr, rfl, by omega, hg2⟩
    obtain ⟨kk, hkk, hk1, hk2⟩ := hw
    rw [hkk]
    try simp only [wpSs, wpS, wpI, wpE, wpEs, wpB, wpO, wpT, getV, btW, bmW, bmTy, on1_one, on2_two, onI_int, onB_bl, intW_int, intW_bl, lenW_tup, seqW_tup, lenW_ul, lenW_ud, idxW_ul, seqW_ul, lstW_ul, listW_ul, listW_ud, tupW_ul, onL_ul, atL_ul, setiW_u0, setiW_u1, slcW_ul, Store.upd_upd, lenW_lk, seqW_lk, lstW_lk, listW_lk, slcW_lk, slcW_tup, idxW_lk, listW_tup, tupW_tup, zipW_tup, opS_addI, opS_subI, opS_mulI, opS_fdivI, opS_modI, opS_powI, opS_addT, opS_addS, opW_addI, opW_subI, opW_mulI, opW_addS, ltW_int, ltW_str, ieq_t, ieq_f, ilt_t, ilt_f, ile_t, ile_f, cm_eq, cm_ne, cm_lt, cm_gt, cm_le, cm_ge, cm_in, cm_ni, cm_is, cm_isnt, eqW_int, eqW_str, eqW_bl, idxW_tup, atI_0, atI_1, atI_2, optQ_some, bindT_name, bindT_tup, bindTs_nil, bindTs_cons, wFor_nil, wFor_cons, zipD_cons, zipD_nil, zipD_nil2, List.set_cons_zero, List.set_cons_succ, true_and, and_true, List.length_cons, List.length_nil, Nat.zero_add, Nat.reduceAdd, h2]
    refine ⟨rfl, p, kk, rfl, hp4, hk1, by omega, fun y S5 y1 y2 hp5 g5 => ?_⟩
    have up : ∀ {z : Addr} {o : Ob}, S z = some o → S2 z = some o → S5 z = some o := fun hz0 hz2' => g5 _ _ (np hz0) (g4 _ _ (np hz0) (Grew.new hl (l := []) _ _ (by simp) (g3 _ _ (np hz0) hz2')))
    have r65 := up h6 r62
    have r75 := up h7 r72
    have G5 : Grew [] S S5 := by
      have a1 : Grew [p] S2 S5 := g3.trans ((Grew.new hl).trans (g4.trans g5))
      exact (G2.sub (l' := [p]) (by simp) |>.trans a1).sub (by simpa using hp)
    try simp only [wpSs, wpS, wpI, wpE, wpEs, wpB, wpO, wpT, getV, btW, bmW, bmTy, on1_one, on2_two, onI_int, onB_bl, intW_int, intW_bl, lenW_tup, seqW_tup, lenW_ul, lenW_ud, idxW_ul, seqW_ul, lstW_ul, listW_ul, listW_ud, tupW_ul, onL_ul, atL_ul, setiW_u0, setiW_u1, slcW_ul, Store.upd_upd, lenW_lk, seqW_lk, lstW_lk, listW_lk, slcW_lk, slcW_tup, idxW_lk, listW_tup, tupW_tup, zipW_tup, opS_addI, opS_subI, opS_mulI, opS_fdivI, opS_modI, opS_powI, opS_addT, opS_addS, opW_addI, opW_subI, opW_mulI, opW_addS, ltW_int, ltW_str, ieq_t, ieq_f, ilt_t, ilt_f, ile_t, ile_f, cm_eq, cm_ne, cm_lt, cm_gt, cm_le, cm_ge, cm_in, cm_ni, cm_is, cm_isnt, eqW_int, eqW_str, eqW_bl, idxW_tup, atI_0, atI_1, atI_2, optQ_some, bindT_name, bindT_tup, bindTs_nil, bindTs_cons, wFor_nil, wFor_cons, zipD_cons, zipD_nil, zipD_nil2, List.set_cons_zero, List.set_cons_succ, true_and, and_true, List.length_cons, List.length_nil, Nat.zero_add, Nat.reduceAdd, onL_lst r65, atL_lst r65]
    refine ⟨by simp only [List.length_map]; unfold sizeLine; omega, ?_⟩
    have r76 : (S5.upd r6 (.lst (xs.map r3D ++ [.tup [.int h, .str zs[w.toNat], .int (1 + y)]]))) r7 = some (.lst (ns.map .int)) := (Store.upd_ne h67.symm).trans r75
    rw [onL_lst r76]
    refine ⟨trivial, fun l2 hl2 => ?_⟩
    have hl27 : l2 ≠ r7 := by rintro rfl; rw [r76] at hl2; cases hl2
    rw [opS_addL Store.upd_same ((Store.upd_ne hl27.symm).trans r76)]
    refine ⟨by simp only [List.length_map]; unfold sizeLine; simp; omega, fun l3 hl3 => ?_⟩
    obtain ⟨hl32, hl3b⟩ := upd_none hl3
    have hl37 : l3 ≠ r7 := by rintro rfl; rw [r76] at hl3b; cases hl3b
    try simp only [wpSs, wpS, wpI, wpE, wpEs, wpB, wpO, wpT, getV, btW, bmW, bmTy, on1_one, on2_two, onI_int, onB_bl, intW_int, intW_bl, lenW_tup, seqW_tup, lenW_ul, lenW_ud, idxW_ul, seqW_ul, lstW_ul, listW_ul, listW_ud, tupW_ul, onL_ul, atL_ul, setiW_u0, setiW_u1, slcW_ul, Store.upd_upd, lenW_lk, seqW_lk, lstW_lk, listW_lk, slcW_lk, slcW_tup, idxW_lk, listW_tup, tupW_tup, zipW_tup, opS_addI, opS_subI, opS_mulI, opS_fdivI, opS_modI, opS_powI, opS_addT, opS_addS, opW_addI, opW_subI, opW_mulI, opW_addS, ltW_int, ltW_str, ieq_t, ieq_f, ilt_t, ilt_f, ile_t, ile_f, cm_eq, cm_ne, cm_lt, cm_gt, cm_le, cm_ge, cm_in, cm_ni, cm_is, cm_isnt, eqW_int, eqW_str, eqW_bl, idxW_tup, atI_0, atI_1, atI_2, optQ_some, bindT_name, bindT_tup, bindTs_nil, bindTs_cons, wFor_nil, wFor_cons, zipD_cons, zipD_nil, zipD_nil2, List.set_cons_zero, List.set_cons_succ, true_and, and_true, List.length_cons, List.length_nil, Nat.zero_add, Nat.reduceAdd]
    have e0 : [D.int 0] ++ ns.map D.int = (0 :: ns).map D.int := rfl
    rw [e0, atI_nn (by omega), List.getElem?_map, List.getElem?_eq_getElem (by simp only [List.length_cons]; omega)]
    simp only [Option.map_some, optQ_some]
    try simp only [wpSs, wpS, wpI, wpE, wpEs, wpB, wpO, wpT, getV, btW, bmW, bmTy, on1_one, on2_two, onI_int, onB_bl, intW_int, intW_bl, lenW_tup, seqW_tup, lenW_ul, lenW_ud, idxW_ul, seqW_ul, lstW_ul, listW_ul, listW_ud, tupW_ul, onL_ul, atL_ul, setiW_u0, setiW_u1, slcW_ul, Store.upd_upd, lenW_lk, seqW_lk, lstW_lk, listW_lk, slcW_lk, slcW_tup, idxW_lk, listW_tup, tupW_tup, zipW_tup, opS_addI, opS_subI, opS_mulI, opS_fdivI, opS_modI, opS_powI, opS_addT, opS_addS, opW_addI, opW_subI, opW_mulI, opW_addS, ltW_int, ltW_str, ieq_t, ieq_f, ilt_t, ilt_f, ile_t, ile_f, cm_eq, cm_ne, cm_lt, cm_gt, cm_le, cm_ge, cm_in, cm_ni, cm_is, cm_isnt, eqW_int, eqW_str, eqW_bl, idxW_tup, atI_0, atI_1, atI_2, optQ_some, bindT_name, bindT_tup, bindTs_nil, bindTs_cons, wFor_nil, wFor_cons, zipD_cons, zipD_nil, zipD_nil2, List.set_cons_zero, List.set_cons_succ, true_and, and_true, List.length_cons, List.length_nil, Nat.zero_add, Nat.reduceAdd]
    rw [atL_lst (by rw [Store.upd_ne hl37.symm, Store.upd_ne hl27.symm]; exact r76)]
    refine ⟨by simp only [List.length_map]; unfold sizeLine; omega, ?_⟩
    obtain ⟨hl26, hl2c⟩ := upd_none hl2
    obtain ⟨hl36, hl3c⟩ := upd_none hl3b
    refine hk (h, zs[w.toNat], 1 + y) (1 + (0 :: ns)[(h + 1).toNat]'(by simp only [List.length_cons]; omega)) ((S5.upd l2 (.lst [.int 0])).upd l3 (.lst ([D.int 0] ++ ns.map .int))) _ _ _ _ _ ⟨hh1, by simp only; omega, hzo _ (List.getElem_mem _), by simp only; omega, by simp only; omega⟩ ((G5.thenNew hl2c).thenNew (by rw [Store.upd_ne hl32]; exact hl3c)) ?_
    funext z
    simp only [Store.upd, List.map_append, List.map_cons, List.map_nil, r3D]
    by_cases q1 : z = r7
    · simp [q1]
    · by_cases q2 : z = l3
      · subst q2; simp [q1, hl36]
      · by_cases q3 : z = l2
        · subst q3; simp [q1, q2, hl26]
        · simp [q1, q2, q3]
  try simp only [wpSs, wpS, wpI, wpE, wpEs, wpB, wpO, wpT, getV, btW, bmW, bmTy, on1_one, on2_two, onI_int, onB_bl, intW_int, intW_bl, lenW_tup, seqW_tup, lenW_ul, lenW_ud, idxW_ul, seqW_ul, lstW_ul, listW_ul, listW_ud, tupW_ul, onL_ul, atL_ul, setiW_u0, setiW_u1, slcW_ul, Store.upd_upd, lenW_lk, seqW_lk, lstW_lk, listW_lk, slcW_lk, slcW_tup, idxW_lk, listW_tup, tupW_tup, zipW_tup, opS_addI, opS_subI, opS_mulI, opS_fdivI, opS_modI, opS_powI, opS_addT, opS_addS, opW_addI, opW_subI, opW_mulI, opW_addS, ltW_int, ltW_str, ieq_t, ieq_f, ilt_t, ilt_f, ile_t, ile_f, cm_eq, cm_ne, cm_lt, cm_gt, cm_le, cm_ge, cm_in, cm_ni, cm_is, cm_isnt, eqW_int, eqW_str, eqW_bl, idxW_tup, atI_0, atI_1, atI_2, optQ_some, bindT_name, bindT_tup, bindTs_nil, bindTs_cons, wFor_nil, wFor_cons, zipD_cons, zipD_nil, zipD_nil2, List.set_cons_zero, List.set_cons_succ, true_and, and_true, List.length_cons, List.length_nil, Nat.zero_add, Nat.reduceAdd]
  have f1 := fin (ho - 1) (by omega) (by omega)
  have f2 := fin (-1) (by omega) (by omega)
  try simp only [wpSs, wpS, wpI, wpE, wpEs, wpB, wpO, wpT, getV, btW, bmW, bmTy, on1_one, on2_two, onI_int, onB_bl, intW_int, intW_bl, lenW_tup, seqW_tup, lenW_ul, lenW_ud, idxW_ul, seqW_ul, lstW_ul, listW_ul, listW_ud, tupW_ul, onL_ul, atL_ul, setiW_u0, setiW_u1, slcW_ul, Store.upd_upd, lenW_lk, seqW_lk, lstW_lk, listW_lk, slcW_lk, slcW_tup, idxW_lk, listW_tup, tupW_tup, zipW_tup, opS_addI, opS_subI, opS_mulI, opS_fdivI, opS_modI, opS_powI, opS_addT, opS_addS, opW_addI, opW_subI, opW_mulI, opW_addS, ltW_int, ltW_str, ieq_t, ieq_f, ilt_t, ilt_f, ile_t, ile_f, cm_eq, cm_ne, cm_lt, cm_gt, cm_le, cm_ge, cm_in, cm_ni, cm_is, cm_isnt, eqW_int, eqW_str, eqW_bl, idxW_tup, atI_0, atI_1, atI_2, optQ_some, bindT_name, bindT_tup, bindTs_nil, bindTs_cons, wFor_nil, wFor_cons, zipD_cons, zipD_nil, zipD_nil2, List.set_cons_zero, List.set_cons_succ, true_and, and_true, List.length_cons, List.length_nil, Nat.zero_add, Nat.reduceAdd, h1, h2] at f1
  try simp only [wpSs, wpS, wpI, wpE, wpEs, wpB, wpO, wpT, getV, btW, bmW, bmTy, on1_one, on2_two, onI_int, onB_bl, intW_int, intW_bl, lenW_tup, seqW_tup, lenW_ul, lenW_ud, idxW_ul, seqW_ul, lstW_ul, listW_ul, listW_ud, tupW_ul, onL_ul, atL_ul, setiW_u0, setiW_u1, slcW_ul, Store.upd_upd, lenW_lk, seqW_lk, lstW_lk, listW_lk, slcW_lk, slcW_tup, idxW_lk, listW_tup, tupW_tup, zipW_tup, opS_addI, opS_subI, opS_mulI, opS_fdivI, opS_modI, opS_powI, opS_addT, opS_addS, opW_addI, opW_subI, opW_mulI, opW_addS, ltW_int, ltW_str, ieq_t, ieq_f, ilt_t, ilt_f, ile_t, ile_f, cm_eq, cm_ne, cm_lt, cm_gt, cm_le, cm_ge, cm_in, cm_ni, cm_is, cm_isnt, eqW_int, eqW_str, eqW_bl, idxW_tup, atI_0, atI_1, atI_2, optQ_some, bindT_name, bindT_tup, bindTs_nil, bindTs_cons, wFor_nil, wFor_cons, zipD_cons, zipD_nil, zipD_nil2, List.set_cons_zero, List.set_cons_succ, true_and, and_true, List.length_cons, List.length_nil, Nat.zero_add, Nat.reduceAdd, h1, h2] at f2
  refine ifc (fun c1 => ?_) fun c1 => f1
  rw [idxW_lst r72, atI_nn (by omega), List.getElem?_map, List.getElem?_eq_getElem (by omega)]
  simp only [Option.map_some, optQ_some]
  try simp only [wpSs, wpS, wpI, wpE, wpEs, wpB, wpO, wpT, getV, btW, bmW, bmTy, on1_one, on2_two, onI_int, onB_bl, intW_int, intW_bl, lenW_tup, seqW_tup, lenW_ul, lenW_ud, idxW_ul, seqW_ul, lstW_ul, listW_ul, listW_ud, tupW_ul, onL_ul, atL_ul, setiW_u0, setiW_u1, slcW_ul, Store.upd_upd, lenW_lk, seqW_lk, lstW_lk, listW_lk, slcW_lk, slcW_tup, idxW_lk, listW_tup, tupW_tup, zipW_tup, opS_addI, opS_subI, opS_mulI, opS_fdivI, opS_modI, opS_powI, opS_addT, opS_addS, opW_addI, opW_subI, opW_mulI, opW_addS, ltW_int, ltW_str, ieq_t, ieq_f, ilt_t, ilt_f, ile_t, ile_f, cm_eq, cm_ne, cm_lt, cm_gt, cm_le, cm_ge, cm_in, cm_ni, cm_is, cm_isnt, eqW_int, eqW_str, eqW_bl, idxW_tup, atI_0, atI_1, atI_2, optQ_some, bindT_name, bindT_tup, bindTs_nil, bindTs_cons, wFor_nil, wFor_cons, zipD_cons, zipD_nil, zipD_nil2, List.set_cons_zero, List.set_cons_succ, true_and, and_true, List.length_cons, List.length_nil, Nat.zero_add, Nat.reduceAdd]
  exact ifc (fun c2 => f2) fun c2 => f1
end K68
end

section
set_option maxHeartbeats 8000000
namespace K68
open PySem L2 Fel
theorem tree_row {n : Nat} {ys : List Grv.Row} {B' : Int} {kd : Str} {c : Int} (hy : ∀ y ∈ ys, RowB n B' y) (hl : ys.length ≤ 64) (hk : PyData.strOk kd = true) (h1 : 1 ≤ c) (h2 : c ≤ 10 ^ 50) : RowB (n + 1) (10 ^ 50) ((kd, Grv.ofL ys), c) := by
  obtain ⟨o1, o2⟩ := Grv.ok_ofL fun y h => (hy y h).1
  exact ⟨⟨o1, by rw [Grv.len_ofL]; exact hl, h1, by simp only; omega, by simp only; omega, hk⟩, h2⟩
theorem RowB.mono {n m : Nat} {B : Int} {x : Grv.Row} (h : RowB n B x) (hm : n ≤ m) : RowB m B x := by
  obtain ⟨⟨a, b, c, d, e, f⟩, g⟩ := h
  exact ⟨⟨a, b, c, d, by omega, f⟩, g⟩
theorem grove_two {C : Env'} (h3 : C.fn "_law_tidy" = some spTidy) {S : Store} {E : XW} {rt : K1} {M j i : Nat} {r6 hd : Addr} {rows : List R3} {as : List Addr} {a0 a1 a2 a3 a4 a5 a7 b c d e f : Option D} {k : KR}
    (hM : M ≤ 40) (h6 : S r6 = some (.lst (rows.map r3D))) (hrl : rows.length = M) (hr : ∀ x ∈ rows, R3ok M x) (hhd : S hd = some (.lst (as.map .ref))) (hal : as.length = M + 1) (hi : i < M) (hj : j < M)
    (hL : ∀ a ∈ as, ∃ xs : List Grv.Row, S a = some (.lst (xs.map Grv.rowD)) ∧ xs.length ≤ j ∧ ∀ x ∈ xs, RowB j (10 ^ 50) x) (n6 : r6 ∉ as) (n9 : hd ∉ as)
    (hk : ∀ b c d e S', S' r6 = some (.lst (rows.map r3D)) → S' hd = some (.lst (as.map .ref)) → (∀ a ∈ as, ∃ xs : List Grv.Row, S' a = some (.lst (xs.map Grv.rowD)) ∧ xs.length ≤ j + 1 ∧ ∀ x ∈ xs, RowB (j + 1) (10 ^ 50) x) → Grew as S S' →
      k [a0, a1, a2, a3, a4, a5, some (.ref r6), a7, some (.int (0 + (i : Nat))), some (.ref hd), f, b, c, d, e] S') :
    wpSs C E b_law_grove_L0 [a0, a1, a2, a3, a4, a5, some (.ref r6), a7, some (.int (0 + (i : Nat))), some (.ref hd), f, b, c, d, e] S ⟨k, rt⟩ := by
  unfold b_law_grove_L0
  try simp only [wpSs, wpS, wpI, wpE, wpEs, wpB, wpO, wpT, getV, btW, bmW, bmTy, on1_one, on2_two, onI_int, onB_bl, intW_int, intW_bl, lenW_tup, seqW_tup, lenW_ul, lenW_ud, idxW_ul, seqW_ul, lstW_ul, listW_ul, listW_ud, tupW_ul, onL_ul, atL_ul, setiW_u0, setiW_u1, slcW_ul, Store.upd_upd, lenW_lk, seqW_lk, lstW_lk, listW_lk, slcW_lk, slcW_tup, idxW_lk, listW_tup, tupW_tup, zipW_tup, opS_addI, opS_subI, opS_mulI, opS_fdivI, opS_modI, opS_powI, opS_addT, opS_addS, opW_addI, opW_subI, opW_mulI, opW_addS, ltW_int, ltW_str, ieq_t, ieq_f, ilt_t, ilt_f, ile_t, ile_f, cm_eq, cm_ne, cm_lt, cm_gt, cm_le, cm_ge, cm_in, cm_ni, cm_is, cm_isnt, eqW_int, eqW_str, eqW_bl, idxW_tup, atI_0, atI_1, atI_2, optQ_some, bindT_name, bindT_tup, bindTs_nil, bindTs_cons, wFor_nil, wFor_cons, zipD_cons, zipD_nil, zipD_nil2, List.set_cons_zero, List.set_cons_succ, true_and, and_true, List.length_cons, List.length_nil, Nat.zero_add, Nat.reduceAdd, idxW_lst h6]
  rw [atI_nn (by omega), List.getElem?_map, List.getElem?_eq_getElem (by omega)]
  simp only [Option.map_some, optQ_some, r3D]
  have hx := hr rows[(0 + (i : Int)).toNat] (List.getElem_mem _)
  generalize rows[(0 + (i : Int)).toNat] = x at *
  obtain ⟨ho, kd, ct⟩ := x
  obtain ⟨x1, x2, x3, x4, x5⟩ := hx
  try simp only [wpSs, wpS, wpI, wpE, wpEs, wpB, wpO, wpT, getV, btW, bmW, bmTy, on1_one, on2_two, onI_int, onB_bl, intW_int, intW_bl, lenW_tup, seqW_tup, lenW_ul, lenW_ud, idxW_ul, seqW_ul, lstW_ul, listW_ul, listW_ud, tupW_ul, onL_ul, atL_ul, setiW_u0, setiW_u1, slcW_ul, Store.upd_upd, lenW_lk, seqW_lk, lstW_lk, listW_lk, slcW_lk, slcW_tup, idxW_lk, listW_tup, tupW_tup, zipW_tup, opS_addI, opS_subI, opS_mulI, opS_fdivI, opS_modI, opS_powI, opS_addT, opS_addS, opW_addI, opW_subI, opW_mulI, opW_addS, ltW_int, ltW_str, ieq_t, ieq_f, ilt_t, ilt_f, ile_t, ile_f, cm_eq, cm_ne, cm_lt, cm_gt, cm_le, cm_ge, cm_in, cm_ni, cm_is, cm_isnt, eqW_int, eqW_str, eqW_bl, idxW_tup, atI_0, atI_1, atI_2, optQ_some, bindT_name, bindT_tup, bindTs_nil, bindTs_cons, wFor_nil, wFor_cons, zipD_cons, zipD_nil, zipD_nil2, List.set_cons_zero, List.set_cons_succ, true_and, and_true, List.length_cons, List.length_nil, Nat.zero_add, Nat.reduceAdd, idxW_lst hhd, h3]
  rw [atI_nn (by omega), List.getElem?_map, List.getElem?_eq_getElem (by omega)]
  simp only [Option.map_some, optQ_some]
  obtain ⟨xs, l1, l2, l3⟩ := hL as[(0 + (i : Int)).toNat] (List.getElem_mem _)
  refine ⟨rfl, _, xs, j, 10 ^ 50, rfl, l1, l3, by omega, by omega, by decide, ?_, fun ys S1 y1 y2 g1 => ?_⟩
  · have : (xs.length : Int) * 10 ^ 50 ≤ 40 * 10 ^ 50 := Int.mul_le_mul_of_nonneg_right (by omega) (by decide)
    have e : (40 * 10 ^ 50 : Int) < 2 ^ 180 := by decide
    omega
  have hd1 := g1 _ _ (by simp) hhd
  try simp only [wpSs, wpS, wpI, wpE, wpEs, wpB, wpO, wpT, getV, btW, bmW, bmTy, on1_one, on2_two, onI_int, onB_bl, intW_int, intW_bl, lenW_tup, seqW_tup, lenW_ul, lenW_ud, idxW_ul, seqW_ul, lstW_ul, listW_ul, listW_ud, tupW_ul, onL_ul, atL_ul, setiW_u0, setiW_u1, slcW_ul, Store.upd_upd, lenW_lk, seqW_lk, lstW_lk, listW_lk, slcW_lk, slcW_tup, idxW_lk, listW_tup, tupW_tup, zipW_tup, opS_addI, opS_subI, opS_mulI, opS_fdivI, opS_modI, opS_powI, opS_addT, opS_addS, opW_addI, opW_subI, opW_mulI, opW_addS, ltW_int, ltW_str, ieq_t, ieq_f, ilt_t, ilt_f, ile_t, ile_f, cm_eq, cm_ne, cm_lt, cm_gt, cm_le, cm_ge, cm_in, cm_ni, cm_is, cm_isnt, eqW_int, eqW_str, eqW_bl, idxW_tup, atI_0, atI_1, atI_2, optQ_some, bindT_name, bindT_tup, bindTs_nil, bindTs_cons, wFor_nil, wFor_cons, zipD_cons, zipD_nil, zipD_nil2, List.set_cons_zero, List.set_cons_succ, true_and, and_true, List.length_cons, List.length_nil, Nat.zero_add, Nat.reduceAdd, idxW_lst hd1]
  have hb : ∃ b, atI (as.map D.ref) ho = some (.ref b) ∧ b ∈ as := by
    by_cases hn : 0 ≤ ho
    · rw [atI_nn hn, List.getElem?_map, List.getElem?_eq_getElem (by simp only at x2; omega)]
      exact ⟨_, rfl, List.getElem_mem _⟩
    · have e : ho = -1 := by simp only at x1; omega
      subst e
      rcases List.eq_nil_or_concat as with rfl | ⟨ws, w, rfl⟩
      · simp at hal
      · refine ⟨w, ?_, by simp⟩
        rw [List.concat_eq_append, List.map_append]
        exact Fel.atI_last _ _
  obtain ⟨b', hb1, hb2⟩ := hb
  rw [hb1]
  obtain ⟨zs, z1, z2, z3⟩ := hL b' hb2
  have z1' := g1 _ _ (by simp) z1
  try simp only [wpSs, wpS, wpI, wpE, wpEs, wpB, wpO, wpT, getV, btW, bmW, bmTy, on1_one, on2_two, onI_int, onB_bl, intW_int, intW_bl, lenW_tup, seqW_tup, lenW_ul, lenW_ud, idxW_ul, seqW_ul, lstW_ul, listW_ul, listW_ud, tupW_ul, onL_ul, atL_ul, setiW_u0, setiW_u1, slcW_ul, Store.upd_upd, lenW_lk, seqW_lk, lstW_lk, listW_lk, slcW_lk, slcW_tup, idxW_lk, listW_tup, tupW_tup, zipW_tup, opS_addI, opS_subI, opS_mulI, opS_fdivI, opS_modI, opS_powI, opS_addT, opS_addS, opW_addI, opW_subI, opW_mulI, opW_addS, ltW_int, ltW_str, ieq_t, ieq_f, ilt_t, ilt_f, ile_t, ile_f, cm_eq, cm_ne, cm_lt, cm_gt, cm_le, cm_ge, cm_in, cm_ni, cm_is, cm_isnt, eqW_int, eqW_str, eqW_bl, idxW_tup, atI_0, atI_1, atI_2, optQ_some, bindT_name, bindT_tup, bindTs_nil, bindTs_cons, wFor_nil, wFor_cons, zipD_cons, zipD_nil, zipD_nil2, List.set_cons_zero, List.set_cons_succ, true_and, and_true, List.length_cons, List.length_nil, Nat.zero_add, Nat.reduceAdd, onL_lst z1', atL_lst z1']
  refine ⟨by simp only [List.length_map]; unfold sizeLine; omega, hk _ _ _ _ _ ?_ ?_ ?_ ?_⟩
  · rw [Store.upd_ne (by rintro rfl; exact n6 hb2)]; exact g1 _ _ (by simp) h6
  · rw [Store.upd_ne (by rintro rfl; exact n9 hb2)]; exact hd1
  · intro a ha
    by_cases q : a = b'
    · subst q
      refine ⟨zs ++ [((kd, Grv.ofL ys), ct)], by rw [Store.upd_same]; simp [Grv.rowD, Grv.treeD], by simp only [List.length_append, List.length_singleton]; omega, ?_⟩
      intro z hz
      rcases List.mem_append.1 hz with h | h
      · exact (z3 z h).mono (by omega)
      · simp only [List.mem_singleton] at h
        subst h
        exact tree_row y1 (by omega) x3 x4 x5
    · obtain ⟨us, u1, u2, u3⟩ := hL a ha
      exact ⟨us, by rw [Store.upd_ne q]; exact g1 _ _ (by simp) u1, by omega, fun x h => (u3 x h).mono (by omega)⟩
  · exact (g1.sub (by simp)).thenAt hb2
theorem k_law_grove {C : Env'} (h1 : C.fn "_law_purse" = some spPurse) (h2 : C.fn "_law_take" = some spTake) (h3 : C.fn "_law_tidy" = some spTidy) : Keeps C b_law_grove n_law_grove spGrove := by
  rintro ds S Q E - ⟨is, m, nm, gr, zs, rfl, hm1, hm2, hz, hz2, hzo, hnm, hg1, hg2, q⟩
  show wpSs C _ b_law_grove [some _, some _, some _, some _, some _, some _, none, none, none, none, none, none, none, none, none] S _
  unfold b_law_grove
  try simp only [wpSs, wpS, wpI, wpE, wpEs, wpB, wpO, wpT, getV, btW, bmW, bmTy, on1_one, on2_two, onI_int, onB_bl, intW_int, intW_bl, lenW_tup, seqW_tup, lenW_ul, lenW_ud, idxW_ul, seqW_ul, lstW_ul, listW_ul, listW_ud, tupW_ul, onL_ul, atL_ul, setiW_u0, setiW_u1, slcW_ul, Store.upd_upd, lenW_lk, seqW_lk, lstW_lk, listW_lk, slcW_lk, slcW_tup, idxW_lk, listW_tup, tupW_tup, zipW_tup, opS_addI, opS_subI, opS_mulI, opS_fdivI, opS_modI, opS_powI, opS_addT, opS_addS, opW_addI, opW_subI, opW_mulI, opW_addS, ltW_int, ltW_str, ieq_t, ieq_f, ilt_t, ilt_f, ile_t, ile_f, cm_eq, cm_ne, cm_lt, cm_gt, cm_le, cm_ge, cm_in, cm_ni, cm_is, cm_isnt, eqW_int, eqW_str, eqW_bl, idxW_tup, atI_0, atI_1, atI_2, optQ_some, bindT_name, bindT_tup, bindTs_nil, bindTs_cons, wFor_nil, wFor_cons, zipD_cons, zipD_nil, zipD_nil2, List.set_cons_zero, List.set_cons_succ, true_and, and_true, List.length_cons, List.length_nil, Nat.zero_add, Nat.reduceAdd]
  intro r6 hr6 r7 hr7
  obtain ⟨h76, hr70⟩ := upd_none hr7
  obtain ⟨M, rfl⟩ := Int.eq_ofNat_of_zero_le hm1
  have hm2' : M ≤ 40 := by omega
  refine ⟨by omega, by omega, by omega, ?_⟩
  refine wFor_inv (fun ds ρ S' => ∃ (xs : List R3) (ns : List Int) (k0 h9 : Option D) (a b c d e : Option D), ρ = [some (.lk (is.map .int)), some (.int 2), some (.int M), some (.ref nm), some (.int gr), some (.int 12), some (.ref r6), some (.ref r7), k0, h9, a, b, c, d, e] ∧
    (∀ x ∈ xs, R3ok M x) ∧ ds = (List.range' xs.length (M - xs.length)).map (fun (i : Nat) => D.int (0 + i)) ∧ xs.length ≤ M ∧ ns.length = xs.length ∧ S' r6 = some (.lst (xs.map r3D)) ∧ S' r7 = some (.lst (ns.map .int)) ∧ Grew [] S S') ?_ ?_ _ _ _
    ⟨[], [], none, none, none, none, none, none, none, rfl, by simp, by simp [rngD, List.range_eq_range'], by simp, rfl, by rw [Store.upd_ne (Ne.symm h76), Store.upd_same]; rfl, Store.upd_same, (Grew.new hr6).thenFresh hr70⟩
  · rintro _ S1 ⟨xs, ns, k0, h9, a, b, c, d, e, rfl, hx, e0, hxl, hnl, s6, s7, g1⟩
    have hxM : xs.length = M := by
      have := congrArg List.length e0
      simp only [List.length_nil, List.length_map, List.length_range'] at this
      omega
    refine ⟨trivial, ?_⟩
    try simp only [wpSs, wpS, wpI, wpE, wpEs, wpB, wpO, wpT, getV, btW, bmW, bmTy, on1_one, on2_two, onI_int, onB_bl, intW_int, intW_bl, lenW_tup, seqW_tup, lenW_ul, lenW_ud, idxW_ul, seqW_ul, lstW_ul, listW_ul, listW_ud, tupW_ul, onL_ul, atL_ul, setiW_u0, setiW_u1, slcW_ul, Store.upd_upd, lenW_lk, seqW_lk, lstW_lk, listW_lk, slcW_lk, slcW_tup, idxW_lk, listW_tup, tupW_tup, zipW_tup, opS_addI, opS_subI, opS_mulI, opS_fdivI, opS_modI, opS_powI, opS_addT, opS_addS, opW_addI, opW_subI, opW_mulI, opW_addS, ltW_int, ltW_str, ieq_t, ieq_f, ilt_t, ilt_f, ile_t, ile_f, cm_eq, cm_ne, cm_lt, cm_gt, cm_le, cm_ge, cm_in, cm_ni, cm_is, cm_isnt, eqW_int, eqW_str, eqW_bl, idxW_tup, atI_0, atI_1, atI_2, optQ_some, bindT_name, bindT_tup, bindTs_nil, bindTs_cons, wFor_nil, wFor_cons, zipD_cons, zipD_nil, zipD_nil2, List.set_cons_zero, List.set_cons_succ, true_and, and_true, List.length_cons, List.length_nil, Nat.zero_add, Nat.reduceAdd]
    refine ⟨by omega, by omega, by omega, ?_⟩
    refine wLc_inv (fun ds acc S' => ∃ as : List Addr, acc = as.map .ref ∧ (∀ a ∈ as, S' a = some (.lst []) ∧ S1 a = none) ∧ as.length + ds.length = M + 1 ∧ Grew [] S1 S') ?_ ?_ _ _ _ ⟨[], rfl, by simp, by simp [rngD], Grew.refl⟩
    · rintro _ S2 ⟨as, rfl, ha, hal, g2⟩
      simp only [List.length_nil, Nat.add_zero] at hal
      refine ⟨trivial, fun hd hhd => ?_⟩
      try simp only [wpSs, wpS, wpI, wpE, wpEs, wpB, wpO, wpT, getV, btW, bmW, bmTy, on1_one, on2_two, onI_int, onB_bl, intW_int, intW_bl, lenW_tup, seqW_tup, lenW_ul, lenW_ud, idxW_ul, seqW_ul, lstW_ul, listW_ul, listW_ud, tupW_ul, onL_ul, atL_ul, setiW_u0, setiW_u1, slcW_ul, Store.upd_upd, lenW_lk, seqW_lk, lstW_lk, listW_lk, slcW_lk, slcW_tup, idxW_lk, listW_tup, tupW_tup, zipW_tup, opS_addI, opS_subI, opS_mulI, opS_fdivI, opS_modI, opS_powI, opS_addT, opS_addS, opW_addI, opW_subI, opW_mulI, opW_addS, ltW_int, ltW_str, ieq_t, ieq_f, ilt_t, ilt_f, ile_t, ile_f, cm_eq, cm_ne, cm_lt, cm_gt, cm_le, cm_ge, cm_in, cm_ni, cm_is, cm_isnt, eqW_int, eqW_str, eqW_bl, idxW_tup, atI_0, atI_1, atI_2, optQ_some, bindT_name, bindT_tup, bindTs_nil, bindTs_cons, wFor_nil, wFor_cons, zipD_cons, zipD_nil, zipD_nil2, List.set_cons_zero, List.set_cons_succ, true_and, and_true, List.length_cons, List.length_nil, Nat.zero_add, Nat.reduceAdd]
      refine ⟨by omega, by omega, by omega, ?_⟩
      have n6 : r6 ∉ as := fun h => by have := (ha _ h).2; rw [s6] at this; cases this
      have n9 : hd ∉ as := fun h => by have := (ha _ h).1; rw [hhd] at this; cases this
      have hdS1 : S1 hd = none := by
        cases e : S1 hd with
        | none => rfl
        | some o => have := g2 _ _ (by simp) e; rw [hhd] at this; cases this
      refine wFor_inv (fun ds ρ S' => ∃ (k0 a b c d e : Option D), ρ = [some (.lk (is.map .int)), some (.int 2), some (.int M), some (.ref nm), some (.int gr), some (.int 12), some (.ref r6), some (.ref r7), k0, some (.ref hd), a, b, c, d, e] ∧
        ds.length ≤ M ∧ (∀ d ∈ ds, ∃ i : Nat, d = .int (0 + i) ∧ i < M) ∧ S' r6 = some (.lst (xs.map r3D)) ∧ S' hd = some (.lst (as.map .ref)) ∧ (∀ a ∈ as, ∃ xs : List Grv.Row, S' a = some (.lst (xs.map Grv.rowD)) ∧ xs.length ≤ M - ds.length ∧ ∀ x ∈ xs, RowB (M - ds.length) (10 ^ 50) x) ∧ Grew as S1 S') ?_ ?_ _ _ _
        ⟨k0, a, b, c, d, e, rfl, by simp [rngD], ?_, ?_, Store.upd_same, ?_, ?_⟩
      · rintro _ S3 ⟨k0, a, b, c, d, e, rfl, _, _, t6, t9, tL, g3⟩
        refine ⟨trivial, ?_⟩
        try simp only [wpSs, wpS, wpI, wpE, wpEs, wpB, wpO, wpT, getV, btW, bmW, bmTy, on1_one, on2_two, onI_int, onB_bl, intW_int, intW_bl, lenW_tup, seqW_tup, lenW_ul, lenW_ud, idxW_ul, seqW_ul, lstW_ul, listW_ul, listW_ud, tupW_ul, onL_ul, atL_ul, setiW_u0, setiW_u1, slcW_ul, Store.upd_upd, lenW_lk, seqW_lk, lstW_lk, listW_lk, slcW_lk, slcW_tup, idxW_lk, listW_tup, tupW_tup, zipW_tup, opS_addI, opS_subI, opS_mulI, opS_fdivI, opS_modI, opS_powI, opS_addT, opS_addS, opW_addI, opW_subI, opW_mulI, opW_addS, ltW_int, ltW_str, ieq_t, ieq_f, ilt_t, ilt_f, ile_t, ile_f, cm_eq, cm_ne, cm_lt, cm_gt, cm_le, cm_ge, cm_in, cm_ni, cm_is, cm_isnt, eqW_int, eqW_str, eqW_bl, idxW_tup, atI_0, atI_1, atI_2, optQ_some, bindT_name, bindT_tup, bindTs_nil, bindTs_cons, wFor_nil, wFor_cons, zipD_cons, zipD_nil, zipD_nil2, List.set_cons_zero, List.set_cons_succ, true_and, and_true, List.length_cons, List.length_nil, Nat.zero_add, Nat.reduceAdd, idxW_lst t9, h3]
        rw [atI_nn (by omega), List.getElem?_map, List.getElem?_eq_getElem (by omega)]
        simp only [Option.map_some, optQ_some]
        obtain ⟨ws, l1, l2, l3⟩ := tL _ (List.getElem_mem (l := as) (n := (M : Int).toNat) (by omega))
        simp only [List.length_nil, Nat.sub_zero] at l2 l3
        have hw : (ws.length : Int) * 10 ^ 50 ≤ 40 * 10 ^ 50 := Int.mul_le_mul_of_nonneg_right (by omega) (by decide)
        refine ⟨rfl, _, ws, M, 10 ^ 50, rfl, l1, l3, by omega, by omega, by decide, ?_, fun ys S4 y1 y2 g4 => Wp.ret (q _ _ ?_ (by omega) ?_)⟩
        · have e : (40 * 10 ^ 50 : Int) < 2 ^ 180 := by decide
          omega
        · intro y hy
          have := y1 y hy
          exact ⟨(this.mono (m := 41) (by omega)).1, by have := this.2; omega⟩
        · refine (g1.trans ?_).trans g4
          exact g3.sub fun x hx => .inr (ha x hx).2
      · rintro dd ds ρ S3 k ⟨k0, a, b, c, d, e, rfl, dl, dd', t6, t9, tL, g3⟩ hk
        refine ⟨trivial, ?_⟩
        obtain ⟨i, rfl, hi⟩ := dd' _ List.mem_cons_self
        simp only [List.length_cons] at dl
        try simp only [wpSs, wpS, wpI, wpE, wpEs, wpB, wpO, wpT, getV, btW, bmW, bmTy, on1_one, on2_two, onI_int, onB_bl, intW_int, intW_bl, lenW_tup, seqW_tup, lenW_ul, lenW_ud, idxW_ul, seqW_ul, lstW_ul, listW_ul, listW_ud, tupW_ul, onL_ul, atL_ul, setiW_u0, setiW_u1, slcW_ul, Store.upd_upd, lenW_lk, seqW_lk, lstW_lk, listW_lk, slcW_lk, slcW_tup, idxW_lk, listW_tup, tupW_tup, zipW_tup, opS_addI, opS_subI, opS_mulI, opS_fdivI, opS_modI, opS_powI, opS_addT, opS_addS, opW_addI, opW_subI, opW_mulI, opW_addS, ltW_int, ltW_str, ieq_t, ieq_f, ilt_t, ilt_f, ile_t, ile_f, cm_eq, cm_ne, cm_lt, cm_gt, cm_le, cm_ge, cm_in, cm_ni, cm_is, cm_isnt, eqW_int, eqW_str, eqW_bl, idxW_tup, atI_0, atI_1, atI_2, optQ_some, bindT_name, bindT_tup, bindTs_nil, bindTs_cons, wFor_nil, wFor_cons, zipD_cons, zipD_nil, zipD_nil2, List.set_cons_zero, List.set_cons_succ, true_and, and_true, List.length_cons, List.length_nil, Nat.zero_add, Nat.reduceAdd]
        refine grove_two h3 hm2' t6 hxM hx t9 hal hi (j := M - (ds.length + 1)) (by omega) (by simpa using tL) n6 n9 fun b c d e S' u6 u9 uL ug => hk _ _ ⟨_, _, _, _, _, _, rfl, by omega, fun x h => dd' x (List.mem_cons_of_mem _ h), u6, u9, ?_, g3.trans ug⟩
        have e : M - (ds.length + 1) + 1 = M - ds.length := by omega
        rw [e] at uL
        exact uL
      · intro d hd'
        rw [List.mem_reverse] at hd'
        obtain ⟨i, hi, rfl⟩ := List.mem_map.1 hd'
        exact ⟨i, rfl, by have := List.mem_range.1 hi; omega⟩
      · rw [Store.upd_ne (by rintro rfl; rw [s6] at hdS1; cases hdS1)]; exact g2 _ _ (by simp) s6
      · intro a ha'
        refine ⟨[], by rw [Store.upd_ne (by rintro rfl; exact n9 ha')]; exact (ha a ha').1, by simp, by simp⟩
      · exact (g2.sub (by simp)).thenFresh hdS1
    · rintro dd ds acc S2 k1 k2 ⟨as, rfl, ha, hal, g2⟩ hk1 hk2
      refine ⟨trivial, ?_⟩
      simp only [List.length_cons] at hal
      simp only [wipeR]
      try simp only [wpSs, wpS, wpI, wpE, wpEs, wpB, wpO, wpT, getV, btW, bmW, bmTy, on1_one, on2_two, onI_int, onB_bl, intW_int, intW_bl, lenW_tup, seqW_tup, lenW_ul, lenW_ud, idxW_ul, seqW_ul, lstW_ul, listW_ul, listW_ud, tupW_ul, onL_ul, atL_ul, setiW_u0, setiW_u1, slcW_ul, Store.upd_upd, lenW_lk, seqW_lk, lstW_lk, listW_lk, slcW_lk, slcW_tup, idxW_lk, listW_tup, tupW_tup, zipW_tup, opS_addI, opS_subI, opS_mulI, opS_fdivI, opS_modI, opS_powI, opS_addT, opS_addS, opW_addI, opW_subI, opW_mulI, opW_addS, ltW_int, ltW_str, ieq_t, ieq_f, ilt_t, ilt_f, ile_t, ile_f, cm_eq, cm_ne, cm_lt, cm_gt, cm_le, cm_ge, cm_in, cm_ni, cm_is, cm_isnt, eqW_int, eqW_str, eqW_bl, idxW_tup, atI_0, atI_1, atI_2, optQ_some, bindT_name, bindT_tup, bindTs_nil, bindTs_cons, wFor_nil, wFor_cons, zipD_cons, zipD_nil, zipD_nil2, List.set_cons_zero, List.set_cons_succ, true_and, and_true, List.length_cons, List.length_nil, Nat.zero_add, Nat.reduceAdd]
      intro p hp
      have hp1 : S1 p = none := by
        cases e : S1 p with
        | none => rfl
        | some o => have := g2 _ _ (by simp) e; rw [hp] at this; cases this
      refine hk1 _ _ ⟨as ++ [p], by simp, ?_, by simp only [List.length_append, List.length_singleton]; omega, g2.thenNew hp⟩
      intro a ha'
      rcases List.mem_append.1 ha' with h | h
      · exact ⟨by rw [Store.upd_ne (by rintro rfl; have := (ha _ h).1; rw [hp] at this; cases this)]; exact (ha a h).1, (ha a h).2⟩
      · simp only [List.mem_singleton] at h
        subst h
        exact ⟨Store.upd_same, hp1⟩
  · rintro dd ds ρ S1 k ⟨xs, ns, k0, h9, a, b, c, d, e, rfl, hx, e0, hxl, hnl, s6, s7, g1⟩ hk
    refine ⟨trivial, ?_⟩
    have hlt : xs.length < M := by
      have := congrArg List.length e0
      simp only [List.length_cons, List.length_map, List.length_range'] at this
      omega
    have er : List.range' xs.length (M - xs.length) = xs.length :: List.range' (xs.length + 1) (M - (xs.length + 1)) := by
      have : M - xs.length = (M - (xs.length + 1)) + 1 := by omega
      rw [this, List.range'_succ]
    rw [er] at e0
    simp only [List.map_cons, List.cons.injEq] at e0
    obtain ⟨rfl, rfl⟩ := e0
    try simp only [wpSs, wpS, wpI, wpE, wpEs, wpB, wpO, wpT, getV, btW, bmW, bmTy, on1_one, on2_two, onI_int, onB_bl, intW_int, intW_bl, lenW_tup, seqW_tup, lenW_ul, lenW_ud, idxW_ul, seqW_ul, lstW_ul, listW_ul, listW_ud, tupW_ul, onL_ul, atL_ul, setiW_u0, setiW_u1, slcW_ul, Store.upd_upd, lenW_lk, seqW_lk, lstW_lk, listW_lk, slcW_lk, slcW_tup, idxW_lk, listW_tup, tupW_tup, zipW_tup, opS_addI, opS_subI, opS_mulI, opS_fdivI, opS_modI, opS_powI, opS_addT, opS_addS, opW_addI, opW_subI, opW_mulI, opW_addS, ltW_int, ltW_str, ieq_t, ieq_f, ilt_t, ilt_f, ile_t, ile_f, cm_eq, cm_ne, cm_lt, cm_gt, cm_le, cm_ge, cm_in, cm_ni, cm_is, cm_isnt, eqW_int, eqW_str, eqW_bl, idxW_tup, atI_0, atI_1, atI_2, optQ_some, bindT_name, bindT_tup, bindTs_nil, bindTs_cons, wFor_nil, wFor_cons, zipD_cons, zipD_nil, zipD_nil2, List.set_cons_zero, List.set_cons_succ, true_and, and_true, List.length_cons, List.length_nil, Nat.zero_add, Nat.reduceAdd]
    refine grove_one (f := none) h1 h2 hlt hm2' hz hz2 hzo (g1 _ _ (by simp) hnm) hg1 hg2 s6 s7 (Ne.symm h76) hx rfl hnl fun x n S' S2 a b c d hx' gx eS => hk _ _ ⟨xs ++ [x], ns ++ [n], _, _, _, _, _, _, _, rfl, ?_, by simp, by simp only [List.length_append, List.length_singleton]; omega, by simp [hnl], ?_, ?_, ?_⟩
    · intro y hy
      rcases List.mem_append.1 hy with h | h
      · exact hx y h
      · simp only [List.mem_singleton] at h; subst h; exact hx'
    · rw [eS, Store.upd_ne (Ne.symm h76), Store.upd_same]
    · rw [eS, Store.upd_same]
    · rw [eS]; exact ((g1.trans gx).thenFresh hr6).thenFresh hr70
end K68
end

section
set_option maxHeartbeats 8000000
namespace K68
open PySem L2 Fel
/-! the plain law -/
def fact : Nat → Nat
  | 0 => 1
  | n + 1 => (n + 1) * fact n
theorem fact_pos : ∀ n, 0 < fact n
  | 0 => Nat.one_pos
  | n + 1 => Nat.mul_pos (Nat.succ_pos n) (fact_pos n)
theorem fact_dvd {t : Nat} : ∀ {n : Nat}, t ≤ n → fact t ∣ fact n
  | 0, h => by rw [Nat.le_zero.1 h]; exact Nat.dvd_refl _
  | n + 1, h => by
    by_cases e : t = n + 1
    · rw [e]; exact Nat.dvd_refl _
    · exact Nat.dvd_trans (fact_dvd (n := n) (by omega)) (Nat.dvd_mul_left _ _)
theorem fact_add : ∀ (s a b : Nat), a + b = s → fact a * fact b ∣ fact (a + b)
  | _, 0, b, _ => by simp [fact]
  | _, a + 1, 0, _ => by simp [fact]
  | 0, a + 1, b + 1, h => by omega
  | s + 1, a + 1, b + 1, h => by
    have h1 := fact_add s a (b + 1) (by omega)
    have h2 := fact_add s (a + 1) b (by omega)
    have e1 : a + (b + 1) = a + b + 1 := by omega
    have e2 : a + 1 + b = a + b + 1 := by omega
    rw [e1] at h1
    rw [e2] at h2
    have e3 : a + 1 + (b + 1) = (a + b + 1) + 1 := by omega
    rw [e3]
    show _ ∣ (a + b + 1 + 1) * fact (a + b + 1)
    have e4 : (a + b + 1 + 1) * fact (a + b + 1) = (a + 1) * fact (a + b + 1) + (b + 1) * fact (a + b + 1) := by rw [← Nat.add_mul]; congr 1; omega
    rw [e4]
    refine Nat.dvd_add ?_ ?_
    · show (a + 1) * fact a * fact (b + 1) ∣ _
      rw [Nat.mul_assoc]
      exact Nat.mul_dvd_mul_left _ h1
    · show fact (a + 1) * ((b + 1) * fact b) ∣ _
      rw [Nat.mul_left_comm]
      exact Nat.mul_dvd_mul_left _ h2
theorem fact_pow {s p : Nat} (h : p ∣ fact s) : ∀ m : Nat, p ^ m ∣ fact (m * s)
  | 0 => by simp [fact]
  | m + 1 => by
    rw [Nat.succ_mul, Nat.pow_succ]
    exact Nat.dvd_trans (Nat.mul_dvd_mul (fact_pow h m) h) (fact_add _ _ _ rfl)
def szN : Grv → Nat
  | .nil => 0
  | .cons _ h m r => m.toNat * (1 + szN h) + szN r
def prd : Grv → Nat
  | .nil => 1
  | .cons _ h m r => ((1 + szN h) * prd h) ^ m.toNat * prd r
theorem size_N : ∀ {g : Grv}, g.Ok → g.size = szN g
  | .nil, _ => rfl
  | .cons k h m r, ho => by
    have h1 := size_N ho.1
    have h2 := size_N ho.2.2.2.2.1
    have h3 : ((m.toNat : Nat) : Int) = m := by have := ho.2.2.1; omega
    simp only [Grv.size, szN, h1, h2, Int.natCast_add, Int.natCast_mul, h3]
    rfl
theorem prd_pos : ∀ g, 0 < prd g
  | .nil => Nat.one_pos
  | .cons k h m r => Nat.mul_pos (Nat.pow_pos (Nat.mul_pos (by omega) (prd_pos h))) (prd_pos r)
theorem prd_dvd : ∀ g, prd g ∣ fact (szN g)
  | .nil => by simp [prd, szN, fact]
  | .cons k h m r => by
    have h1 : (1 + szN h) * prd h ∣ fact (1 + szN h) := by
      rw [Nat.add_comm 1]
      exact Nat.mul_dvd_mul_left _ (prd_dvd h)
    exact Nat.dvd_trans (Nat.mul_dvd_mul (fact_pow h1 m.toNat) (prd_dvd r)) (fact_add _ _ _ rfl)
theorem prd_le : ∀ {g : Grv}, g.Ok → szN g ≤ 400 → prd g ≤ 400 ^ szN g
  | .nil, _, _ => Nat.le_refl _
  | .cons k h m r, ho, hs => by
    simp only [szN] at hs
    have hm : 1 ≤ m.toNat := by have := ho.2.2.1; omega
    have hs1 : 1 + szN h ≤ m.toNat * (1 + szN h) := Nat.le_mul_of_pos_left _ hm
    have h1 := prd_le ho.1 (by omega)
    have h2 := prd_le ho.2.2.2.2.1 (by omega)
    simp only [prd, szN]
    rw [Nat.pow_add]
    refine Nat.mul_le_mul ?_ h2
    rw [Nat.mul_comm m.toNat, Nat.pow_mul, Nat.pow_add]
    exact Nat.pow_le_pow_left (Nat.mul_le_mul (by omega) h1) _
theorem big {g : Grv} (ho : g.Ok) (hs : szN g ≤ 400) : prd g ≤ 400 ^ 400 := Nat.le_trans (prd_le ho hs) (Nat.pow_le_pow_right (by decide) hs)
theorem big_lt : 400 ^ 400 < 2 ^ 3500 := by decide +kernel
/-! the products -/
def spSizes (n : Nat) : FSp := ⟨1, fun ds S Q _ => ∃ g : Grv, ds = [g.d] ∧ g.Ok ∧ g.len ≤ 64 ∧ g.dep < n ∧ g.dep ≤ 42 ∧ szN g ≤ 400 ∧ Q (.int (prd g)) S⟩
theorem turn_loop {C : Env'} {S : Store} {E : XW} {rt : K1} {a0 a2 a3 : Option D} {X : Nat} {nx : KR} : ∀ (n : Nat) (ds : List D) (f : Nat) (a5 : Option D), ds.length = n → f * X ^ n ≤ 400 ^ 400 → 0 < X → 0 < f → (∀ a5, nx [a0, some (.int ((f * X ^ n : Nat) : Int)), a2, a3, some (.int (X : Int)), a5] S) →
    wFor (bindT (.name 5)) (fun ρ S k => wpSs C E b_sizes_of_L0 ρ S ⟨k, rt⟩) (fun _ => True) ds [a0, some (.int (f : Int)), a2, a3, some (.int (X : Int)), a5] S nx
  | 0, [], f, a5, _, _, _, _, hn => by
    try simp only [wpSs, wpS, wpI, wpE, wpEs, wpB, wpO, wpT, getV, btW, bmW, bmTy, on1_one, on2_two, onI_int, onB_bl, intW_int, intW_bl, lenW_tup, seqW_tup, lenW_ul, lenW_ud, idxW_ul, seqW_ul, lstW_ul, listW_ul, listW_ud, tupW_ul, onL_ul, atL_ul, setiW_u0, setiW_u1, slcW_ul, Store.upd_upd, lenW_lk, seqW_lk, lstW_lk, listW_lk, slcW_lk, slcW_tup, idxW_lk, listW_tup, tupW_tup, zipW_tup, opS_addI, opS_subI, opS_mulI, opS_fdivI, opS_modI, opS_powI, opS_addT, opS_addS, opW_addI, opW_subI, opW_mulI, opW_addS, ltW_int, ltW_str, ieq_t, ieq_f, ilt_t, ilt_f, ile_t, ile_f, cm_eq, cm_ne, cm_lt, cm_gt, cm_le, cm_ge, cm_in, cm_ni, cm_is, cm_isnt, eqW_int, eqW_str, eqW_bl, idxW_tup, atI_0, atI_1, atI_2, optQ_some, bindT_name, bindT_tup, bindTs_nil, bindTs_cons, wFor_nil, wFor_cons, zipD_cons, zipD_nil, zipD_nil2, List.set_cons_zero, List.set_cons_succ, true_and, and_true, List.length_cons, List.length_nil, Nat.zero_add, Nat.reduceAdd]
    simpa using hn a5
  | n + 1, d :: ds, f, a5, hl, hb, hX, hf, hn => by
    rw [wFor_cons]
    try simp only [wpSs, wpS, wpI, wpE, wpEs, wpB, wpO, wpT, getV, btW, bmW, bmTy, on1_one, on2_two, onI_int, onB_bl, intW_int, intW_bl, lenW_tup, seqW_tup, lenW_ul, lenW_ud, idxW_ul, seqW_ul, lstW_ul, listW_ul, listW_ud, tupW_ul, onL_ul, atL_ul, setiW_u0, setiW_u1, slcW_ul, Store.upd_upd, lenW_lk, seqW_lk, lstW_lk, listW_lk, slcW_lk, slcW_tup, idxW_lk, listW_tup, tupW_tup, zipW_tup, opS_addI, opS_subI, opS_mulI, opS_fdivI, opS_modI, opS_powI, opS_addT, opS_addS, opW_addI, opW_subI, opW_mulI, opW_addS, ltW_int, ltW_str, ieq_t, ieq_f, ilt_t, ilt_f, ile_t, ile_f, cm_eq, cm_ne, cm_lt, cm_gt, cm_le, cm_ge, cm_in, cm_ni, cm_is, cm_isnt, eqW_int, eqW_str, eqW_bl, idxW_tup, atI_0, atI_1, atI_2, optQ_some, bindT_name, bindT_tup, bindTs_nil, bindTs_cons, wFor_nil, wFor_cons, zipD_cons, zipD_nil, zipD_nil2, List.set_cons_zero, List.set_cons_succ, true_and, and_true, List.length_cons, List.length_nil, Nat.zero_add, Nat.reduceAdd]
    have e : f * X ^ (n + 1) = f * X * X ^ n := by rw [Nat.pow_succ, Nat.mul_comm (X ^ n), ← Nat.mul_assoc]
    have hXn : 0 < X ^ n := Nat.pow_pos hX
    have ih := turn_loop (C := C) (S := S) (E := E) (rt := rt) (a0 := a0) (a2 := a2) (a3 := a3) (X := X) (nx := nx) n ds (f * X) (some d) (by simpa using hl) (by rw [← e]; exact hb) hX (Nat.mul_pos hf hX) (by rw [← e]; exact hn)
    generalize hk : (fun ρ2 S2 => wFor (bindT (.name 5)) (fun ρ S k => wpSs C E b_sizes_of_L0 ρ S ⟨k, rt⟩) (fun _ => True) ds ρ2 S2 nx) = kk
    unfold b_sizes_of_L0
    try simp only [wpSs, wpS, wpI, wpE, wpEs, wpB, wpO, wpT, getV, btW, bmW, bmTy, on1_one, on2_two, onI_int, onB_bl, intW_int, intW_bl, lenW_tup, seqW_tup, lenW_ul, lenW_ud, idxW_ul, seqW_ul, lstW_ul, listW_ul, listW_ud, tupW_ul, onL_ul, atL_ul, setiW_u0, setiW_u1, slcW_ul, Store.upd_upd, lenW_lk, seqW_lk, lstW_lk, listW_lk, slcW_lk, slcW_tup, idxW_lk, listW_tup, tupW_tup, zipW_tup, opS_addI, opS_subI, opS_mulI, opS_fdivI, opS_modI, opS_powI, opS_addT, opS_addS, opW_addI, opW_subI, opW_mulI, opW_addS, ltW_int, ltW_str, ieq_t, ieq_f, ilt_t, ilt_f, ile_t, ile_f, cm_eq, cm_ne, cm_lt, cm_gt, cm_le, cm_ge, cm_in, cm_ni, cm_is, cm_isnt, eqW_int, eqW_str, eqW_bl, idxW_tup, atI_0, atI_1, atI_2, optQ_some, bindT_name, bindT_tup, bindTs_nil, bindTs_cons, wFor_nil, wFor_cons, zipD_cons, zipD_nil, zipD_nil2, List.set_cons_zero, List.set_cons_succ, true_and, and_true, List.length_cons, List.length_nil, Nat.zero_add, Nat.reduceAdd]
    have b1 : f * X ≤ 400 ^ 400 := Nat.le_trans (Nat.le_mul_of_pos_right _ hXn) (by rw [← e]; exact hb)
    have b2 : f ≤ f * X := Nat.le_mul_of_pos_right _ hX
    have b3 : X ≤ f * X := Nat.le_mul_of_pos_left _ hf
    have bl := big_lt
    refine ⟨mul_big (k := 3500) (j := 3500) ?_ ?_ (by decide), ?_⟩
    · rw [Int.natAbs_natCast]; exact Nat.lt_of_le_of_lt (Nat.le_trans b2 b1) bl
    · rw [Int.natAbs_natCast]; exact Nat.lt_of_le_of_lt (Nat.le_trans b3 b1) bl
    · rw [← hk, ← Int.natCast_mul]
      exact ih
theorem sizes_loop {C : Env'} {n : Nat} (h1 : C.fn "size" = some (spSize 44)) (h2 : C.fn "sizes_of" = some (spSizes n)) {S : Store} {E : XW} {rt : K1} {A : Option D} {nx : KR} : ∀ (g : Grv) (f : Nat) (b c d e : Option D), g.Ok → g.dep < n + 1 → g.dep ≤ 42 → szN g ≤ 400 → f * prd g ≤ 400 ^ 400 → 0 < f → (∀ b c d e, nx [A, some (.int ((f * prd g : Nat) : Int)), b, c, d, e] S) →
    wFor (bindT (.tup (.cons (.name 2) (.cons (.name 3) .nil)))) (fun ρ S k => wpSs C E b_sizes_of_L1 ρ S ⟨k, rt⟩) (fun _ => True) g.enc [A, some (.int (f : Int)), b, c, d, e] S nx
  | .nil, f, b, c, d, e, _, _, _, _, _, _, hn => by
    simp only [Grv.enc]
    try simp only [wpSs, wpS, wpI, wpE, wpEs, wpB, wpO, wpT, getV, btW, bmW, bmTy, on1_one, on2_two, onI_int, onB_bl, intW_int, intW_bl, lenW_tup, seqW_tup, lenW_ul, lenW_ud, idxW_ul, seqW_ul, lstW_ul, listW_ul, listW_ud, tupW_ul, onL_ul, atL_ul, setiW_u0, setiW_u1, slcW_ul, Store.upd_upd, lenW_lk, seqW_lk, lstW_lk, listW_lk, slcW_lk, slcW_tup, idxW_lk, listW_tup, tupW_tup, zipW_tup, opS_addI, opS_subI, opS_mulI, opS_fdivI, opS_modI, opS_powI, opS_addT, opS_addS, opW_addI, opW_subI, opW_mulI, opW_addS, ltW_int, ltW_str, ieq_t, ieq_f, ilt_t, ilt_f, ile_t, ile_f, cm_eq, cm_ne, cm_lt, cm_gt, cm_le, cm_ge, cm_in, cm_ni, cm_is, cm_isnt, eqW_int, eqW_str, eqW_bl, idxW_tup, atI_0, atI_1, atI_2, optQ_some, bindT_name, bindT_tup, bindTs_nil, bindTs_cons, wFor_nil, wFor_cons, zipD_cons, zipD_nil, zipD_nil2, List.set_cons_zero, List.set_cons_succ, true_and, and_true, List.length_cons, List.length_nil, Nat.zero_add, Nat.reduceAdd]
    simpa [prd] using hn b c d e
  | .cons k h m r, f, b, c, d, e, ho, hd1, hd2, hs, hb, hf, hn => by
    simp only [Grv.dep] at hd1 hd2
    have hs' := hs
    simp only [szN] at hs'
    have hm : 1 ≤ m.toNat := by have := ho.2.2.1; omega
    have hs1 : 1 + szN h ≤ m.toNat * (1 + szN h) := Nat.le_mul_of_pos_left _ hm
    have hm2 : m.toNat ≤ m.toNat * (1 + szN h) := Nat.le_mul_of_pos_right _ (by omega)
    have eP : f * prd (.cons k h m r) = f * ((1 + szN h) * prd h) ^ m.toNat * prd r := by simp only [prd]; rw [Nat.mul_assoc]
    rw [eP] at hb
    simp only [eP] at hn
    have hX : 0 < (1 + szN h) * prd h := Nat.mul_pos (by omega) (prd_pos h)
    have ih := fun b c d e => sizes_loop h1 h2 (S := S) (E := E) (rt := rt) (A := A) (nx := nx) r (f * ((1 + szN h) * prd h) ^ m.toNat) b c d e ho.2.2.2.2.1 (by omega) (by omega) (by omega) hb (Nat.mul_pos hf (Nat.pow_pos hX)) hn
    simp only [Grv.enc]
    rw [wFor_cons]
    try simp only [wpSs, wpS, wpI, wpE, wpEs, wpB, wpO, wpT, getV, btW, bmW, bmTy, on1_one, on2_two, onI_int, onB_bl, intW_int, intW_bl, lenW_tup, seqW_tup, lenW_ul, lenW_ud, idxW_ul, seqW_ul, lstW_ul, listW_ul, listW_ud, tupW_ul, onL_ul, atL_ul, setiW_u0, setiW_u1, slcW_ul, Store.upd_upd, lenW_lk, seqW_lk, lstW_lk, listW_lk, slcW_lk, slcW_tup, idxW_lk, listW_tup, tupW_tup, zipW_tup, opS_addI, opS_subI, opS_mulI, opS_fdivI, opS_modI, opS_powI, opS_addT, opS_addS, opW_addI, opW_subI, opW_mulI, opW_addS, ltW_int, ltW_str, ieq_t, ieq_f, ilt_t, ilt_f, ile_t, ile_f, cm_eq, cm_ne, cm_lt, cm_gt, cm_le, cm_ge, cm_in, cm_ni, cm_is, cm_isnt, eqW_int, eqW_str, eqW_bl, idxW_tup, atI_0, atI_1, atI_2, optQ_some, bindT_name, bindT_tup, bindTs_nil, bindTs_cons, wFor_nil, wFor_cons, zipD_cons, zipD_nil, zipD_nil2, List.set_cons_zero, List.set_cons_succ, true_and, and_true, List.length_cons, List.length_nil, Nat.zero_add, Nat.reduceAdd]
    generalize hk : (fun ρ2 S2 => wFor (bindT (.tup (.cons (.name 2) (.cons (.name 3) .nil)))) (fun ρ S k => wpSs C E b_sizes_of_L1 ρ S ⟨k, rt⟩) (fun _ => True) r.enc ρ2 S2 nx) = kk
    unfold b_sizes_of_L1
    try simp only [wpSs, wpS, wpI, wpE, wpEs, wpB, wpO, wpT, getV, btW, bmW, bmTy, on1_one, on2_two, onI_int, onB_bl, intW_int, intW_bl, lenW_tup, seqW_tup, lenW_ul, lenW_ud, idxW_ul, seqW_ul, lstW_ul, listW_ul, listW_ud, tupW_ul, onL_ul, atL_ul, setiW_u0, setiW_u1, slcW_ul, Store.upd_upd, lenW_lk, seqW_lk, lstW_lk, listW_lk, slcW_lk, slcW_tup, idxW_lk, listW_tup, tupW_tup, zipW_tup, opS_addI, opS_subI, opS_mulI, opS_fdivI, opS_modI, opS_powI, opS_addT, opS_addS, opW_addI, opW_subI, opW_mulI, opW_addS, ltW_int, ltW_str, ieq_t, ieq_f, ilt_t, ilt_f, ile_t, ile_f, cm_eq, cm_ne, cm_lt, cm_gt, cm_le, cm_ge, cm_in, cm_ni, cm_is, cm_isnt, eqW_int, eqW_str, eqW_bl, idxW_tup, atI_0, atI_1, atI_2, optQ_some, bindT_name, bindT_tup, bindTs_nil, bindTs_cons, wFor_nil, wFor_cons, zipD_cons, zipD_nil, zipD_nil2, List.set_cons_zero, List.set_cons_succ, true_and, and_true, List.length_cons, List.length_nil, Nat.zero_add, Nat.reduceAdd, h1, h2]
    refine ⟨rfl, h, rfl, ho.1, ho.2.1, by omega, by omega, ?_⟩
    try simp only [wpSs, wpS, wpI, wpE, wpEs, wpB, wpO, wpT, getV, btW, bmW, bmTy, on1_one, on2_two, onI_int, onB_bl, intW_int, intW_bl, lenW_tup, seqW_tup, lenW_ul, lenW_ud, idxW_ul, seqW_ul, lstW_ul, listW_ul, listW_ud, tupW_ul, onL_ul, atL_ul, setiW_u0, setiW_u1, slcW_ul, Store.upd_upd, lenW_lk, seqW_lk, lstW_lk, listW_lk, slcW_lk, slcW_tup, idxW_lk, listW_tup, tupW_tup, zipW_tup, opS_addI, opS_subI, opS_mulI, opS_fdivI, opS_modI, opS_powI, opS_addT, opS_addS, opW_addI, opW_subI, opW_mulI, opW_addS, ltW_int, ltW_str, ieq_t, ieq_f, ilt_t, ilt_f, ile_t, ile_f, cm_eq, cm_ne, cm_lt, cm_gt, cm_le, cm_ge, cm_in, cm_ni, cm_is, cm_isnt, eqW_int, eqW_str, eqW_bl, idxW_tup, atI_0, atI_1, atI_2, optQ_some, bindT_name, bindT_tup, bindTs_nil, bindTs_cons, wFor_nil, wFor_cons, zipD_cons, zipD_nil, zipD_nil2, List.set_cons_zero, List.set_cons_succ, true_and, and_true, List.length_cons, List.length_nil, Nat.zero_add, Nat.reduceAdd, h1, h2]
    refine ⟨rfl, h, rfl, ho.1, ho.2.1, by omega, by omega, by omega, ?_⟩
    try simp only [wpSs, wpS, wpI, wpE, wpEs, wpB, wpO, wpT, getV, btW, bmW, bmTy, on1_one, on2_two, onI_int, onB_bl, intW_int, intW_bl, lenW_tup, seqW_tup, lenW_ul, lenW_ud, idxW_ul, seqW_ul, lstW_ul, listW_ul, listW_ud, tupW_ul, onL_ul, atL_ul, setiW_u0, setiW_u1, slcW_ul, Store.upd_upd, lenW_lk, seqW_lk, lstW_lk, listW_lk, slcW_lk, slcW_tup, idxW_lk, listW_tup, tupW_tup, zipW_tup, opS_addI, opS_subI, opS_mulI, opS_fdivI, opS_modI, opS_powI, opS_addT, opS_addS, opW_addI, opW_subI, opW_mulI, opW_addS, ltW_int, ltW_str, ieq_t, ieq_f, ilt_t, ilt_f, ile_t, ile_f, cm_eq, cm_ne, cm_lt, cm_gt, cm_le, cm_ge, cm_in, cm_ni, cm_is, cm_isnt, eqW_int, eqW_str, eqW_bl, idxW_tup, atI_0, atI_1, atI_2, optQ_some, bindT_name, bindT_tup, bindTs_nil, bindTs_cons, wFor_nil, wFor_cons, zipD_cons, zipD_nil, zipD_nil2, List.set_cons_zero, List.set_cons_succ, true_and, and_true, List.length_cons, List.length_nil, Nat.zero_add, Nat.reduceAdd, h1, h2]
    rw [size_N ho.1]
    refine ⟨mul_l (by omega) (by omega), by omega, by omega, by omega, ?_⟩
    have eX : (1 + (szN h : Int)) * (prd h : Int) = (((1 + szN h) * prd h : Nat) : Int) := by simp [Int.natCast_mul, Int.natCast_add]
    rw [eX]
    refine turn_loop m.toNat _ f _ (by simp [rngD]) (Nat.le_trans (Nat.le_mul_of_pos_right _ (prd_pos r)) hb) hX hf fun a5 => ?_
    rw [← hk]
    exact ih _ _ _ _
theorem k_sizes_of {C : Env'} {n : Nat} (h1 : C.fn "size" = some (spSize 44)) (h2 : C.fn "sizes_of" = some (spSizes n)) : Keeps C b_sizes_of n_sizes_of (spSizes (n + 1)) := by
  rintro ds S Q E - ⟨g, rfl, ho, hl, hd1, hd2, hs, q⟩
  show wpSs C _ b_sizes_of [some _, none, none, none, none, none] S _
  unfold b_sizes_of
  try simp only [wpSs, wpS, wpI, wpE, wpEs, wpB, wpO, wpT, getV, btW, bmW, bmTy, on1_one, on2_two, onI_int, onB_bl, intW_int, intW_bl, lenW_tup, seqW_tup, lenW_ul, lenW_ud, idxW_ul, seqW_ul, lstW_ul, listW_ul, listW_ud, tupW_ul, onL_ul, atL_ul, setiW_u0, setiW_u1, slcW_ul, Store.upd_upd, lenW_lk, seqW_lk, lstW_lk, listW_lk, slcW_lk, slcW_tup, idxW_lk, listW_tup, tupW_tup, zipW_tup, opS_addI, opS_subI, opS_mulI, opS_fdivI, opS_modI, opS_powI, opS_addT, opS_addS, opW_addI, opW_subI, opW_mulI, opW_addS, ltW_int, ltW_str, ieq_t, ieq_f, ilt_t, ilt_f, ile_t, ile_f, cm_eq, cm_ne, cm_lt, cm_gt, cm_le, cm_ge, cm_in, cm_ni, cm_is, cm_isnt, eqW_int, eqW_str, eqW_bl, idxW_tup, atI_0, atI_1, atI_2, optQ_some, bindT_name, bindT_tup, bindTs_nil, bindTs_cons, wFor_nil, wFor_cons, zipD_cons, zipD_nil, zipD_nil2, List.set_cons_zero, List.set_cons_succ, true_and, and_true, List.length_cons, List.length_nil, Nat.zero_add, Nat.reduceAdd]
  unfold Grv.d
  try simp only [wpSs, wpS, wpI, wpE, wpEs, wpB, wpO, wpT, getV, btW, bmW, bmTy, on1_one, on2_two, onI_int, onB_bl, intW_int, intW_bl, lenW_tup, seqW_tup, lenW_ul, lenW_ud, idxW_ul, seqW_ul, lstW_ul, listW_ul, listW_ud, tupW_ul, onL_ul, atL_ul, setiW_u0, setiW_u1, slcW_ul, Store.upd_upd, lenW_lk, seqW_lk, lstW_lk, listW_lk, slcW_lk, slcW_tup, idxW_lk, listW_tup, tupW_tup, zipW_tup, opS_addI, opS_subI, opS_mulI, opS_fdivI, opS_modI, opS_powI, opS_addT, opS_addS, opW_addI, opW_subI, opW_mulI, opW_addS, ltW_int, ltW_str, ieq_t, ieq_f, ilt_t, ilt_f, ile_t, ile_f, cm_eq, cm_ne, cm_lt, cm_gt, cm_le, cm_ge, cm_in, cm_ni, cm_is, cm_isnt, eqW_int, eqW_str, eqW_bl, idxW_tup, atI_0, atI_1, atI_2, optQ_some, bindT_name, bindT_tup, bindTs_nil, bindTs_cons, wFor_nil, wFor_cons, zipD_cons, zipD_nil, zipD_nil2, List.set_cons_zero, List.set_cons_succ, true_and, and_true, List.length_cons, List.length_nil, Nat.zero_add, Nat.reduceAdd]
  refine sizes_loop h1 h2 g 1 _ _ _ _ ho hd1 hd2 hs (by rw [Nat.one_mul]; exact big ho hs) (by decide) fun b c d e => ?_
  try simp only [wpSs, wpS, wpI, wpE, wpEs, wpB, wpO, wpT, getV, btW, bmW, bmTy, on1_one, on2_two, onI_int, onB_bl, intW_int, intW_bl, lenW_tup, seqW_tup, lenW_ul, lenW_ud, idxW_ul, seqW_ul, lstW_ul, listW_ul, listW_ud, tupW_ul, onL_ul, atL_ul, setiW_u0, setiW_u1, slcW_ul, Store.upd_upd, lenW_lk, seqW_lk, lstW_lk, listW_lk, slcW_lk, slcW_tup, idxW_lk, listW_tup, tupW_tup, zipW_tup, opS_addI, opS_subI, opS_mulI, opS_fdivI, opS_modI, opS_powI, opS_addT, opS_addS, opW_addI, opW_subI, opW_mulI, opW_addS, ltW_int, ltW_str, ieq_t, ieq_f, ilt_t, ilt_f, ile_t, ile_f, cm_eq, cm_ne, cm_lt, cm_gt, cm_le, cm_ge, cm_in, cm_ni, cm_is, cm_isnt, eqW_int, eqW_str, eqW_bl, idxW_tup, atI_0, atI_1, atI_2, optQ_some, bindT_name, bindT_tup, bindTs_nil, bindTs_cons, wFor_nil, wFor_cons, zipD_cons, zipD_nil, zipD_nil2, List.set_cons_zero, List.set_cons_succ, true_and, and_true, List.length_cons, List.length_nil, Nat.zero_add, Nat.reduceAdd]
  rw [Nat.one_mul]
  exact Wp.ret q
/-! orders -/
def spOrders (TL : Addr) : FSp := ⟨1, fun ds S Q E => ∃ g : Grv, ds = [g.d] ∧ g.Ok ∧ g.len ≤ 64 ∧ g.dep ≤ 42 ∧ (400 < szN g → E TL none S) ∧ (szN g ≤ 400 → Q (.int ((fact (szN g) / prd g : Nat) : Int)) S)⟩
theorem fact_loop {C : Env'} {S : Store} {E : XW} {rt : K1} {a0 a1 : Option D} {nx : KR} : ∀ (n t : Nat) (a3 : Option D), t + n ≤ 400 → (∀ a3, nx [a0, a1, some (.int (fact (t + n + 1) : Nat)), a3] S) →
    wFor (bindT (.name 3)) (fun ρ S k => wpSs C E b_orders_L0 ρ S ⟨k, rt⟩) (fun _ => True) ((List.range' t n).map fun (i : Nat) => D.int (2 + i)) [a0, a1, some (.int (fact (t + 1) : Nat)), a3] S nx
  | 0, t, a3, _, hn => by
    simp only [List.range'_zero, List.map_nil]
    try simp only [wpSs, wpS, wpI, wpE, wpEs, wpB, wpO, wpT, getV, btW, bmW, bmTy, on1_one, on2_two, onI_int, onB_bl, intW_int, intW_bl, lenW_tup, seqW_tup, lenW_ul, lenW_ud, idxW_ul, seqW_ul, lstW_ul, listW_ul, listW_ud, tupW_ul, onL_ul, atL_ul, setiW_u0, setiW_u1, slcW_ul, Store.upd_upd, lenW_lk, seqW_lk, lstW_lk, listW_lk, slcW_lk, slcW_tup, idxW_lk, listW_tup, tupW_tup, zipW_tup, opS_addI, opS_subI, opS_mulI, opS_fdivI, opS_modI, opS_powI, opS_addT, opS_addS, opW_addI, opW_subI, opW_mulI, opW_addS, ltW_int, ltW_str, ieq_t, ieq_f, ilt_t, ilt_f, ile_t, ile_f, cm_eq, cm_ne, cm_lt, cm_gt, cm_le, cm_ge, cm_in, cm_ni, cm_is, cm_isnt, eqW_int, eqW_str, eqW_bl, idxW_tup, atI_0, atI_1, atI_2, optQ_some, bindT_name, bindT_tup, bindTs_nil, bindTs_cons, wFor_nil, wFor_cons, zipD_cons, zipD_nil, zipD_nil2, List.set_cons_zero, List.set_cons_succ, true_and, and_true, List.length_cons, List.length_nil, Nat.zero_add, Nat.reduceAdd]
    exact hn a3
  | n + 1, t, a3, hb, hn => by
    simp only [List.range'_succ, List.map_cons]
    rw [wFor_cons]
    try simp only [wpSs, wpS, wpI, wpE, wpEs, wpB, wpO, wpT, getV, btW, bmW, bmTy, on1_one, on2_two, onI_int, onB_bl, intW_int, intW_bl, lenW_tup, seqW_tup, lenW_ul, lenW_ud, idxW_ul, seqW_ul, lstW_ul, listW_ul, listW_ud, tupW_ul, onL_ul, atL_ul, setiW_u0, setiW_u1, slcW_ul, Store.upd_upd, lenW_lk, seqW_lk, lstW_lk, listW_lk, slcW_lk, slcW_tup, idxW_lk, listW_tup, tupW_tup, zipW_tup, opS_addI, opS_subI, opS_mulI, opS_fdivI, opS_modI, opS_powI, opS_addT, opS_addS, opW_addI, opW_subI, opW_mulI, opW_addS, ltW_int, ltW_str, ieq_t, ieq_f, ilt_t, ilt_f, ile_t, ile_f, cm_eq, cm_ne, cm_lt, cm_gt, cm_le, cm_ge, cm_in, cm_ni, cm_is, cm_isnt, eqW_int, eqW_str, eqW_bl, idxW_tup, atI_0, atI_1, atI_2, optQ_some, bindT_name, bindT_tup, bindTs_nil, bindTs_cons, wFor_nil, wFor_cons, zipD_cons, zipD_nil, zipD_nil2, List.set_cons_zero, List.set_cons_succ, true_and, and_true, List.length_cons, List.length_nil, Nat.zero_add, Nat.reduceAdd]
    have ih := fact_loop (C := C) (S := S) (E := E) (rt := rt) (a0 := a0) (a1 := a1) (nx := nx) n (t + 1) (some (.int (2 + t))) (by omega) (by
      have e : t + 1 + n + 1 = t + (n + 1) + 1 := by omega
      rw [e]; exact hn)
    generalize hk : (fun ρ2 S2 => wFor (bindT (.name 3)) (fun ρ S k => wpSs C E b_orders_L0 ρ S ⟨k, rt⟩) (fun _ => True) ((List.range' (t + 1) n).map fun (i : Nat) => D.int (2 + i)) ρ2 S2 nx) = kk
    unfold b_orders_L0
    try simp only [wpSs, wpS, wpI, wpE, wpEs, wpB, wpO, wpT, getV, btW, bmW, bmTy, on1_one, on2_two, onI_int, onB_bl, intW_int, intW_bl, lenW_tup, seqW_tup, lenW_ul, lenW_ud, idxW_ul, seqW_ul, lstW_ul, listW_ul, listW_ud, tupW_ul, onL_ul, atL_ul, setiW_u0, setiW_u1, slcW_ul, Store.upd_upd, lenW_lk, seqW_lk, lstW_lk, listW_lk, slcW_lk, slcW_tup, idxW_lk, listW_tup, tupW_tup, zipW_tup, opS_addI, opS_subI, opS_mulI, opS_fdivI, opS_modI, opS_powI, opS_addT, opS_addS, opW_addI, opW_subI, opW_mulI, opW_addS, ltW_int, ltW_str, ieq_t, ieq_f, ilt_t, ilt_f, ile_t, ile_f, cm_eq, cm_ne, cm_lt, cm_gt, cm_le, cm_ge, cm_in, cm_ni, cm_is, cm_isnt, eqW_int, eqW_str, eqW_bl, idxW_tup, atI_0, atI_1, atI_2, optQ_some, bindT_name, bindT_tup, bindTs_nil, bindTs_cons, wFor_nil, wFor_cons, zipD_cons, zipD_nil, zipD_nil2, List.set_cons_zero, List.set_cons_succ, true_and, and_true, List.length_cons, List.length_nil, Nat.zero_add, Nat.reduceAdd]
    refine ⟨mul_r (by omega) (by omega), ?_⟩
    rw [← hk]
    have e : ((fact (t + 1) : Nat) : Int) * (2 + (t : Int)) = ((fact (t + 1 + 1) : Nat) : Int) := by
      show _ = (((t + 1 + 1) * fact (t + 1) : Nat) : Int)
      rw [Int.natCast_mul, Int.mul_comm]
      congr 1
      omega
    rw [e]
    exact ih
theorem k_orders {C : Env'} {TL : Addr} (h1 : C.fn "size" = some (spSize 44)) (h2 : C.fn "sizes_of" = some (spSizes 44)) (h3 : C.gl "MOST_SIZE" = some (.int 400)) (h4 : C.ex "TooLong" = some TL) : Keeps C b_orders n_orders (spOrders TL) := by
  rintro ds S Q E - ⟨g, rfl, ho, hl, hd, qe, q⟩
  show wpSs C _ b_orders [some _, none, none, none] S _
  unfold b_orders
  try simp only [wpSs, wpS, wpI, wpE, wpEs, wpB, wpO, wpT, getV, btW, bmW, bmTy, on1_one, on2_two, onI_int, onB_bl, intW_int, intW_bl, lenW_tup, seqW_tup, lenW_ul, lenW_ud, idxW_ul, seqW_ul, lstW_ul, listW_ul, listW_ud, tupW_ul, onL_ul, atL_ul, setiW_u0, setiW_u1, slcW_ul, Store.upd_upd, lenW_lk, seqW_lk, lstW_lk, listW_lk, slcW_lk, slcW_tup, idxW_lk, listW_tup, tupW_tup, zipW_tup, opS_addI, opS_subI, opS_mulI, opS_fdivI, opS_modI, opS_powI, opS_addT, opS_addS, opW_addI, opW_subI, opW_mulI, opW_addS, ltW_int, ltW_str, ieq_t, ieq_f, ilt_t, ilt_f, ile_t, ile_f, cm_eq, cm_ne, cm_lt, cm_gt, cm_le, cm_ge, cm_in, cm_ni, cm_is, cm_isnt, eqW_int, eqW_str, eqW_bl, idxW_tup, atI_0, atI_1, atI_2, optQ_some, bindT_name, bindT_tup, bindTs_nil, bindTs_cons, wFor_nil, wFor_cons, zipD_cons, zipD_nil, zipD_nil2, List.set_cons_zero, List.set_cons_succ, true_and, and_true, List.length_cons, List.length_nil, Nat.zero_add, Nat.reduceAdd, h1, h2, h3, h4]
  refine ⟨rfl, g, rfl, ho, hl, by omega, hd, ?_⟩
  try simp only [wpSs, wpS, wpI, wpE, wpEs, wpB, wpO, wpT, getV, btW, bmW, bmTy, on1_one, on2_two, onI_int, onB_bl, intW_int, intW_bl, lenW_tup, seqW_tup, lenW_ul, lenW_ud, idxW_ul, seqW_ul, lstW_ul, listW_ul, listW_ud, tupW_ul, onL_ul, atL_ul, setiW_u0, setiW_u1, slcW_ul, Store.upd_upd, lenW_lk, seqW_lk, lstW_lk, listW_lk, slcW_lk, slcW_tup, idxW_lk, listW_tup, tupW_tup, zipW_tup, opS_addI, opS_subI, opS_mulI, opS_fdivI, opS_modI, opS_powI, opS_addT, opS_addS, opW_addI, opW_subI, opW_mulI, opW_addS, ltW_int, ltW_str, ieq_t, ieq_f, ilt_t, ilt_f, ile_t, ile_f, cm_eq, cm_ne, cm_lt, cm_gt, cm_le, cm_ge, cm_in, cm_ni, cm_is, cm_isnt, eqW_int, eqW_str, eqW_bl, idxW_tup, atI_0, atI_1, atI_2, optQ_some, bindT_name, bindT_tup, bindTs_nil, bindTs_cons, wFor_nil, wFor_cons, zipD_cons, zipD_nil, zipD_nil2, List.set_cons_zero, List.set_cons_succ, true_and, and_true, List.length_cons, List.length_nil, Nat.zero_add, Nat.reduceAdd, h1, h2, h3, h4]
  rw [size_N ho]
  refine ifc (fun c => ⟨S, Sub.refl S, qe (by omega)⟩) fun c => ⟨by omega, by omega, by omega, by omega, by omega, ?_⟩
  have hs : szN g ≤ 400 := by omega
  have e0 : rngD 2 ((szN g : Int) + 1 - 2).toNat = (List.range' 0 (szN g - 1)).map fun (i : Nat) => D.int (2 + i) := by
    have : ((szN g : Int) + 1 - 2).toNat = szN g - 1 := by omega
    rw [this, ← List.range_eq_range']
    rfl
  rw [e0]
  refine fact_loop (szN g - 1) 0 _ (by omega) fun a3 => ?_
  try simp only [wpSs, wpS, wpI, wpE, wpEs, wpB, wpO, wpT, getV, btW, bmW, bmTy, on1_one, on2_two, onI_int, onB_bl, intW_int, intW_bl, lenW_tup, seqW_tup, lenW_ul, lenW_ud, idxW_ul, seqW_ul, lstW_ul, listW_ul, listW_ud, tupW_ul, onL_ul, atL_ul, setiW_u0, setiW_u1, slcW_ul, Store.upd_upd, lenW_lk, seqW_lk, lstW_lk, listW_lk, slcW_lk, slcW_tup, idxW_lk, listW_tup, tupW_tup, zipW_tup, opS_addI, opS_subI, opS_mulI, opS_fdivI, opS_modI, opS_powI, opS_addT, opS_addS, opW_addI, opW_subI, opW_mulI, opW_addS, ltW_int, ltW_str, ieq_t, ieq_f, ilt_t, ilt_f, ile_t, ile_f, cm_eq, cm_ne, cm_lt, cm_gt, cm_le, cm_ge, cm_in, cm_ni, cm_is, cm_isnt, eqW_int, eqW_str, eqW_bl, idxW_tup, atI_0, atI_1, atI_2, optQ_some, bindT_name, bindT_tup, bindTs_nil, bindTs_cons, wFor_nil, wFor_cons, zipD_cons, zipD_nil, zipD_nil2, List.set_cons_zero, List.set_cons_succ, true_and, and_true, List.length_cons, List.length_nil, Nat.zero_add, Nat.reduceAdd, h1, h2]
  refine ⟨rfl, g, rfl, ho, hl, by omega, hd, hs, ?_⟩
  try simp only [wpSs, wpS, wpI, wpE, wpEs, wpB, wpO, wpT, getV, btW, bmW, bmTy, on1_one, on2_two, onI_int, onB_bl, intW_int, intW_bl, lenW_tup, seqW_tup, lenW_ul, lenW_ud, idxW_ul, seqW_ul, lstW_ul, listW_ul, listW_ud, tupW_ul, onL_ul, atL_ul, setiW_u0, setiW_u1, slcW_ul, Store.upd_upd, lenW_lk, seqW_lk, lstW_lk, listW_lk, slcW_lk, slcW_tup, idxW_lk, listW_tup, tupW_tup, zipW_tup, opS_addI, opS_subI, opS_mulI, opS_fdivI, opS_modI, opS_powI, opS_addT, opS_addS, opW_addI, opW_subI, opW_mulI, opW_addS, ltW_int, ltW_str, ieq_t, ieq_f, ilt_t, ilt_f, ile_t, ile_f, cm_eq, cm_ne, cm_lt, cm_gt, cm_le, cm_ge, cm_in, cm_ni, cm_is, cm_isnt, eqW_int, eqW_str, eqW_bl, idxW_tup, atI_0, atI_1, atI_2, optQ_some, bindT_name, bindT_tup, bindTs_nil, bindTs_cons, wFor_nil, wFor_cons, zipD_cons, zipD_nil, zipD_nil2, List.set_cons_zero, List.set_cons_succ, true_and, and_true, List.length_cons, List.length_nil, Nat.zero_add, Nat.reduceAdd]
  have hb := big ho hs
  have hp := prd_pos g
  refine ⟨⟨by omega, ?_⟩, ?_⟩
  · have : (prd g).log2 < 3500 := (Nat.log2_lt (by omega)).2 (Nat.lt_of_le_of_lt hb big_lt)
    rw [Int.natAbs_natCast]
    omega
  · have e1 : fact (szN g - 1 + 1) = fact (szN g) := by
      by_cases z : szN g = 0
      · rw [z]; rfl
      · congr 1; omega
    rw [e1, ← Int.natCast_ediv]
    exact Wp.ret (q hs)
end K68
end

section
set_option maxHeartbeats 8000000
namespace K68
open PySem L2 Fel
def szs : Grv → List Nat
  | .nil => []
  | .cons _ h m r => (List.replicate m.toNat ((1 + szN h) :: szs h)).flatten ++ szs r
def natD (n : Nat) : D := .int (n : Int)
theorem szs_len : ∀ g, (szs g).length = szN g
  | .nil => rfl
  | .cons k h m r => by
    simp only [szs, szN, List.length_append, List.length_flatten, List.map_replicate, List.length_cons, szs_len h, szs_len r, List.sum_replicate_nat]
    rw [Nat.add_comm 1]
def prl : List Nat → Nat
  | [] => 1
  | x :: xs => x * prl xs
theorem prl_app : ∀ xs ys, prl (xs ++ ys) = prl xs * prl ys
  | [], ys => by simp [prl]
  | x :: xs, ys => by simp [prl, prl_app xs ys, Nat.mul_assoc]
theorem prl_rep (xs : List Nat) : ∀ n, prl (List.replicate n xs).flatten = prl xs ^ n
  | 0 => rfl
  | n + 1 => by rw [List.replicate_succ, List.flatten_cons, prl_app, prl_rep xs n, Nat.pow_succ, Nat.mul_comm]
theorem prl_szs : ∀ g, prl (szs g) = prd g
  | .nil => rfl
  | .cons k h m r => by simp only [szs, prl_app, prl_rep, prl, prl_szs h, prl_szs r, prd]
theorem szs_le : ∀ {g : Grv}, g.Ok → ∀ x ∈ szs g, 1 ≤ x ∧ x ≤ szN g
  | .nil, _, x, hx => by cases hx
  | .cons k h m r, ho, x, hx => by
    have hm : 1 ≤ m.toNat := by have := ho.2.2.1; omega
    have hs1 : 1 + szN h ≤ m.toNat * (1 + szN h) := Nat.le_mul_of_pos_left _ hm
    simp only [szs] at hx
    simp only [szN]
    rcases List.mem_append.1 hx with h1 | h1
    · obtain ⟨l, l1, l2⟩ := List.mem_flatten.1 h1
      rw [(List.mem_replicate.1 l1).2] at l2
      rcases List.mem_cons.1 l2 with rfl | l2
      · omega
      · have := szs_le ho.1 x l2; omega
    · have := szs_le ho.2.2.2.2.1 x h1; omega
def spLSizes (n : Nat) : FSp := ⟨1, fun ds S Q _ => ∃ g : Grv, ds = [g.d] ∧ g.Ok ∧ g.len ≤ 64 ∧ g.dep < n ∧ g.dep ≤ 42 ∧ szN g ≤ 400 ∧ ∀ r S', S r = none → S' r = some (.lst ((szs g).map natD)) → Grew [] S S' → Q (.ref r) S'⟩
theorem lsizes_loop {C : Env'} {n : Nat} (h1 : C.fn "_law_size" = some (spSize 44)) (h2 : C.fn "_law_sizes" = some (spLSizes n)) {S0 : Store} {E : XW} {rt : K1} {A : Option D} {nx : KR} : ∀ (g : Grv) (S : Store) (f : Addr) (xs : List Nat) (b c : Option D), g.Ok → g.dep < n + 1 → g.dep ≤ 42 → xs.length + szN g ≤ 400 → S f = some (.lst (xs.map natD)) → S0 f = none → Grew [] S0 S →
    (∀ f S' b c, S0 f = none → S' f = some (.lst ((xs ++ szs g).map natD)) → Grew [] S0 S' → nx [A, some (.ref f), b, c] S') →
    wFor (bindT (.tup (.cons (.name 2) (.cons (.name 3) .nil)))) (fun ρ S k => wpSs C E b_law_sizes_L0 ρ S ⟨k, rt⟩) (fun _ => True) g.enc [A, some (.ref f), b, c] S nx
  | .nil, S, f, xs, b, c, _, _, _, _, hf, hf0, hg, hn => by
    simp only [Grv.enc]
    try simp only [wpSs, wpS, wpI, wpE, wpEs, wpB, wpO, wpT, getV, btW, bmW, bmTy, on1_one, on2_two, onI_int, onB_bl, intW_int, intW_bl, lenW_tup, seqW_tup, lenW_ul, lenW_ud, idxW_ul, seqW_ul, lstW_ul, listW_ul, listW_ud, tupW_ul, onL_ul, atL_ul, setiW_u0, setiW_u1, slcW_ul, Store.upd_upd, lenW_lk, seqW_lk, lstW_lk, listW_lk, slcW_lk, slcW_tup, idxW_lk, listW_tup, tupW_tup, zipW_tup, opS_addI, opS_subI, opS_mulI, opS_fdivI, opS_modI, opS_powI, opS_addT, opS_addS, opW_addI, opW_subI, opW_mulI, opW_addS, ltW_int, ltW_str, ieq_t, ieq_f, ilt_t, ilt_f, ile_t, ile_f, cm_eq, cm_ne, cm_lt, cm_gt, cm_le, cm_ge, cm_in, cm_ni, cm_is, cm_isnt, eqW_int, eqW_str, eqW_bl, idxW_tup, atI_0, atI_1, atI_2, optQ_some, bindT_name, bindT_tup, bindTs_nil, bindTs_cons, wFor_nil, wFor_cons, zipD_cons, zipD_nil, zipD_nil2, List.set_cons_zero, List.set_cons_succ, true_and, and_true, List.length_cons, List.length_nil, Nat.zero_add, Nat.reduceAdd]
    exact hn f S b c hf0 (by simpa [szs] using hf) hg
  | .cons k h m r, S, f, xs, b, c, ho, hd1, hd2, hs, hf, hf0, hg, hn => by
    simp only [Grv.dep] at hd1 hd2
    have hs' := hs
    simp only [szN] at hs'
    have hm : 1 ≤ m.toNat := by have := ho.2.2.1; omega
    have hm2 : m.toNat ≤ m.toNat * (1 + szN h) := Nat.le_mul_of_pos_right _ (by omega)
    have hs1 : 1 + szN h ≤ m.toNat * (1 + szN h) := Nat.le_mul_of_pos_left _ hm
    simp only [Grv.enc]
    rw [wFor_cons]
    try simp only [wpSs, wpS, wpI, wpE, wpEs, wpB, wpO, wpT, getV, btW, bmW, bmTy, on1_one, on2_two, onI_int, onB_bl, intW_int, intW_bl, lenW_tup, seqW_tup, lenW_ul, lenW_ud, idxW_ul, seqW_ul, lstW_ul, listW_ul, listW_ud, tupW_ul, onL_ul, atL_ul, setiW_u0, setiW_u1, slcW_ul, Store.upd_upd, lenW_lk, seqW_lk, lstW_lk, listW_lk, slcW_lk, slcW_tup, idxW_lk, listW_tup, tupW_tup, zipW_tup, opS_addI, opS_subI, opS_mulI, opS_fdivI, opS_modI, opS_powI, opS_addT, opS_addS, opW_addI, opW_subI, opW_mulI, opW_addS, ltW_int, ltW_str, ieq_t, ieq_f, ilt_t, ilt_f, ile_t, ile_f, cm_eq, cm_ne, cm_lt, cm_gt, cm_le, cm_ge, cm_in, cm_ni, cm_is, cm_isnt, eqW_int, eqW_str, eqW_bl, idxW_tup, atI_0, atI_1, atI_2, optQ_some, bindT_name, bindT_tup, bindTs_nil, bindTs_cons, wFor_nil, wFor_cons, zipD_cons, zipD_nil, zipD_nil2, List.set_cons_zero, List.set_cons_succ, true_and, and_true, List.length_cons, List.length_nil, Nat.zero_add, Nat.reduceAdd]
    have ih := fun S f b c hf hf0 hg => lsizes_loop h1 h2 (S0 := S0) (E := E) (rt := rt) (A := A) (nx := nx) r S f (xs ++ (List.replicate m.toNat ((1 + szN h) :: szs h)).flatten) b c ho.2.2.2.2.1 (by omega) (by omega) (by
      simp only [List.length_append, List.length_flatten, List.map_replicate, List.length_cons, szs_len h, List.sum_replicate_nat]
      rw [Nat.add_comm (szN h) 1]; omega) hf hf0 hg (by simp only [List.append_assoc]; exact hn)
    generalize hk : (fun ρ2 S2 => wFor (bindT (.tup (.cons (.name 2) (.cons (.name 3) .nil)))) (fun ρ S k => wpSs C E b_law_sizes_L0 ρ S ⟨k, rt⟩) (fun _ => True) r.enc ρ2 S2 nx) = kk
    unfold b_law_sizes_L0
    try simp only [wpSs, wpS, wpI, wpE, wpEs, wpB, wpO, wpT, getV, btW, bmW, bmTy, on1_one, on2_two, onI_int, onB_bl, intW_int, intW_bl, lenW_tup, seqW_tup, lenW_ul, lenW_ud, idxW_ul, seqW_ul, lstW_ul, listW_ul, listW_ud, tupW_ul, onL_ul, atL_ul, setiW_u0, setiW_u1, slcW_ul, Store.upd_upd, lenW_lk, seqW_lk, lstW_lk, listW_lk, slcW_lk, slcW_tup, idxW_lk, listW_tup, tupW_tup, zipW_tup, opS_addI, opS_subI, opS_mulI, opS_fdivI, opS_modI, opS_powI, opS_addT, opS_addS, opW_addI, opW_subI, opW_mulI, opW_addS, ltW_int, ltW_str, ieq_t, ieq_f, ilt_t, ilt_f, ile_t, ile_f, cm_eq, cm_ne, cm_lt, cm_gt, cm_le, cm_ge, cm_in, cm_ni, cm_is, cm_isnt, eqW_int, eqW_str, eqW_bl, idxW_tup, atI_0, atI_1, atI_2, optQ_some, bindT_name, bindT_tup, bindTs_nil, bindTs_cons, wFor_nil, wFor_cons, zipD_cons, zipD_nil, zipD_nil2, List.set_cons_zero, List.set_cons_succ, true_and, and_true, List.length_cons, List.length_nil, Nat.zero_add, Nat.reduceAdd, h1, h2]
    refine ⟨rfl, h, rfl, ho.1, ho.2.1, by omega, by omega, ?_⟩
    try simp only [wpSs, wpS, wpI, wpE, wpEs, wpB, wpO, wpT, getV, btW, bmW, bmTy, on1_one, on2_two, onI_int, onB_bl, intW_int, intW_bl, lenW_tup, seqW_tup, lenW_ul, lenW_ud, idxW_ul, seqW_ul, lstW_ul, listW_ul, listW_ud, tupW_ul, onL_ul, atL_ul, setiW_u0, setiW_u1, slcW_ul, Store.upd_upd, lenW_lk, seqW_lk, lstW_lk, listW_lk, slcW_lk, slcW_tup, idxW_lk, listW_tup, tupW_tup, zipW_tup, opS_addI, opS_subI, opS_mulI, opS_fdivI, opS_modI, opS_powI, opS_addT, opS_addS, opW_addI, opW_subI, opW_mulI, opW_addS, ltW_int, ltW_str, ieq_t, ieq_f, ilt_t, ilt_f, ile_t, ile_f, cm_eq, cm_ne, cm_lt, cm_gt, cm_le, cm_ge, cm_in, cm_ni, cm_is, cm_isnt, eqW_int, eqW_str, eqW_bl, idxW_tup, atI_0, atI_1, atI_2, optQ_some, bindT_name, bindT_tup, bindTs_nil, bindTs_cons, wFor_nil, wFor_cons, zipD_cons, zipD_nil, zipD_nil2, List.set_cons_zero, List.set_cons_succ, true_and, and_true, List.length_cons, List.length_nil, Nat.zero_add, Nat.reduceAdd, h1, h2]
    rw [size_N ho.1]
    intro a ha
    refine ⟨rfl, h, rfl, ho.1, ho.2.1, by omega, by omega, by omega, fun b2 S1 hb0 hb gb => ?_⟩
    have hab : S1 a = some (.lst [.int (1 + (szN h : Int))]) := gb _ _ (by simp) Store.upd_same
    have hf1 : S1 f = some (.lst (xs.map natD)) := gb _ _ (by simp) (by rw [Store.upd_ne (by rintro rfl; rw [hf] at ha; cases ha)]; exact hf)
    try simp only [wpSs, wpS, wpI, wpE, wpEs, wpB, wpO, wpT, getV, btW, bmW, bmTy, on1_one, on2_two, onI_int, onB_bl, intW_int, intW_bl, lenW_tup, seqW_tup, lenW_ul, lenW_ud, idxW_ul, seqW_ul, lstW_ul, listW_ul, listW_ud, tupW_ul, onL_ul, atL_ul, setiW_u0, setiW_u1, slcW_ul, Store.upd_upd, lenW_lk, seqW_lk, lstW_lk, listW_lk, slcW_lk, slcW_tup, idxW_lk, listW_tup, tupW_tup, zipW_tup, opS_addI, opS_subI, opS_mulI, opS_fdivI, opS_modI, opS_powI, opS_addT, opS_addS, opW_addI, opW_subI, opW_mulI, opW_addS, ltW_int, ltW_str, ieq_t, ieq_f, ilt_t, ilt_f, ile_t, ile_f, cm_eq, cm_ne, cm_lt, cm_gt, cm_le, cm_ge, cm_in, cm_ni, cm_is, cm_isnt, eqW_int, eqW_str, eqW_bl, idxW_tup, atI_0, atI_1, atI_2, optQ_some, bindT_name, bindT_tup, bindTs_nil, bindTs_cons, wFor_nil, wFor_cons, zipD_cons, zipD_nil, zipD_nil2, List.set_cons_zero, List.set_cons_succ, true_and, and_true, List.length_cons, List.length_nil, Nat.zero_add, Nat.reduceAdd]
    rw [opS_addL hab hb]
    refine ⟨by simp only [List.length_map, szs_len, List.length_cons, List.length_nil]; unfold sizeLine; omega, fun c1 hc1 => ?_⟩
    try simp only [wpSs, wpS, wpI, wpE, wpEs, wpB, wpO, wpT, getV, btW, bmW, bmTy, on1_one, on2_two, onI_int, onB_bl, intW_int, intW_bl, lenW_tup, seqW_tup, lenW_ul, lenW_ud, idxW_ul, seqW_ul, lstW_ul, listW_ul, listW_ud, tupW_ul, onL_ul, atL_ul, setiW_u0, setiW_u1, slcW_ul, Store.upd_upd, lenW_lk, seqW_lk, lstW_lk, listW_lk, slcW_lk, slcW_tup, idxW_lk, listW_tup, tupW_tup, zipW_tup, opS_addI, opS_subI, opS_mulI, opS_fdivI, opS_modI, opS_powI, opS_addT, opS_addS, opW_addI, opW_subI, opW_mulI, opW_addS, ltW_int, ltW_str, ieq_t, ieq_f, ilt_t, ilt_f, ile_t, ile_f, cm_eq, cm_ne, cm_lt, cm_gt, cm_le, cm_ge, cm_in, cm_ni, cm_is, cm_isnt, eqW_int, eqW_str, eqW_bl, idxW_tup, atI_0, atI_1, atI_2, optQ_some, bindT_name, bindT_tup, bindTs_nil, bindTs_cons, wFor_nil, wFor_cons, zipD_cons, zipD_nil, zipD_nil2, List.set_cons_zero, List.set_cons_succ, true_and, and_true, List.length_cons, List.length_nil, Nat.zero_add, Nat.reduceAdd]
    rw [opS_mulL Store.upd_same]
    have e0 : [D.int (1 + (szN h : Int))] ++ (szs h).map natD = ((1 + szN h) :: szs h).map natD := by simp [natD, Int.natCast_add]
    rw [e0]
    refine ⟨by omega, by omega, by simp only [List.length_map, List.length_cons, szs_len]; rw [Nat.mul_comm, Nat.add_comm (szN h) 1]; unfold sizeLine; omega, fun c2 hc2 => ?_⟩
    obtain ⟨h21, h22⟩ := upd_none hc2
    have hf2 : ((S1.upd c1 (.lst (((1 + szN h) :: szs h).map natD))).upd c2 (.lst (List.replicate m.toNat (((1 + szN h) :: szs h).map natD)).flatten)) f = some (.lst (xs.map natD)) := by
      rw [Store.upd_ne (by rintro rfl; rw [hf1] at h22; cases h22), Store.upd_ne (by rintro rfl; rw [hf1] at hc1; cases hc1)]; exact hf1
    rw [opS_addL hf2 Store.upd_same]
    have e1 : (List.replicate m.toNat (((1 + szN h) :: szs h).map natD)).flatten = ((List.replicate m.toNat ((1 + szN h) :: szs h)).flatten).map natD := by rw [List.map_flatten, List.map_replicate]
    refine ⟨?_, fun c3 hc3 => ?_⟩
    · rw [e1]
      simp only [List.length_map, List.length_flatten, List.map_replicate, List.length_cons, szs_len h, List.sum_replicate_nat]
      rw [Nat.add_comm (szN h) 1]
      unfold sizeLine; omega
    obtain ⟨h32, h33⟩ := upd_none hc3
    obtain ⟨h31, h34⟩ := upd_none h33
    rw [← hk]
    have g3 : Grew [] S0 S1 := (hg.thenNew ha).trans gb
    refine ih _ c3 _ _ ?_ ?_ (((g3.thenNew hc1).thenNew hc2).thenNew hc3)
    · rw [Store.upd_same, e1, List.map_append]
    · cases e : S0 c3 with
      | none => rfl
      | some o => have := g3 _ _ (by simp) e; rw [h34] at this; cases this
theorem k_law_sizes {C : Env'} {n : Nat} (h1 : C.fn "_law_size" = some (spSize 44)) (h2 : C.fn "_law_sizes" = some (spLSizes n)) : Keeps C b_law_sizes n_law_sizes (spLSizes (n + 1)) := by
  rintro ds S Q E - ⟨g, rfl, ho, hl, hd1, hd2, hs, q⟩
  show wpSs C _ b_law_sizes [some _, none, none, none] S _
  unfold b_law_sizes
  try simp only [wpSs, wpS, wpI, wpE, wpEs, wpB, wpO, wpT, getV, btW, bmW, bmTy, on1_one, on2_two, onI_int, onB_bl, intW_int, intW_bl, lenW_tup, seqW_tup, lenW_ul, lenW_ud, idxW_ul, seqW_ul, lstW_ul, listW_ul, listW_ud, tupW_ul, onL_ul, atL_ul, setiW_u0, setiW_u1, slcW_ul, Store.upd_upd, lenW_lk, seqW_lk, lstW_lk, listW_lk, slcW_lk, slcW_tup, idxW_lk, listW_tup, tupW_tup, zipW_tup, opS_addI, opS_subI, opS_mulI, opS_fdivI, opS_modI, opS_powI, opS_addT, opS_addS, opW_addI, opW_subI, opW_mulI, opW_addS, ltW_int, ltW_str, ieq_t, ieq_f, ilt_t, ilt_f, ile_t, ile_f, cm_eq, cm_ne, cm_lt, cm_gt, cm_le, cm_ge, cm_in, cm_ni, cm_is, cm_isnt, eqW_int, eqW_str, eqW_bl, idxW_tup, atI_0, atI_1, atI_2, optQ_some, bindT_name, bindT_tup, bindTs_nil, bindTs_cons, wFor_nil, wFor_cons, zipD_cons, zipD_nil, zipD_nil2, List.set_cons_zero, List.set_cons_succ, true_and, and_true, List.length_cons, List.length_nil, Nat.zero_add, Nat.reduceAdd]
  intro f hf
  unfold Grv.d
  try simp only [wpSs, wpS, wpI, wpE, wpEs, wpB, wpO, wpT, getV, btW, bmW, bmTy, on1_one, on2_two, onI_int, onB_bl, intW_int, intW_bl, lenW_tup, seqW_tup, lenW_ul, lenW_ud, idxW_ul, seqW_ul, lstW_ul, listW_ul, listW_ud, tupW_ul, onL_ul, atL_ul, setiW_u0, setiW_u1, slcW_ul, Store.upd_upd, lenW_lk, seqW_lk, lstW_lk, listW_lk, slcW_lk, slcW_tup, idxW_lk, listW_tup, tupW_tup, zipW_tup, opS_addI, opS_subI, opS_mulI, opS_fdivI, opS_modI, opS_powI, opS_addT, opS_addS, opW_addI, opW_subI, opW_mulI, opW_addS, ltW_int, ltW_str, ieq_t, ieq_f, ilt_t, ilt_f, ile_t, ile_f, cm_eq, cm_ne, cm_lt, cm_gt, cm_le, cm_ge, cm_in, cm_ni, cm_is, cm_isnt, eqW_int, eqW_str, eqW_bl, idxW_tup, atI_0, atI_1, atI_2, optQ_some, bindT_name, bindT_tup, bindTs_nil, bindTs_cons, wFor_nil, wFor_cons, zipD_cons, zipD_nil, zipD_nil2, List.set_cons_zero, List.set_cons_succ, true_and, and_true, List.length_cons, List.length_nil, Nat.zero_add, Nat.reduceAdd]
  refine lsizes_loop h1 h2 (S0 := S) g _ f [] _ _ ho hd1 hd2 (by simpa using hs) Store.upd_same hf (Grew.new hf) fun f S' b c hf0 hf' hg => ?_
  try simp only [wpSs, wpS, wpI, wpE, wpEs, wpB, wpO, wpT, getV, btW, bmW, bmTy, on1_one, on2_two, onI_int, onB_bl, intW_int, intW_bl, lenW_tup, seqW_tup, lenW_ul, lenW_ud, idxW_ul, seqW_ul, lstW_ul, listW_ul, listW_ud, tupW_ul, onL_ul, atL_ul, setiW_u0, setiW_u1, slcW_ul, Store.upd_upd, lenW_lk, seqW_lk, lstW_lk, listW_lk, slcW_lk, slcW_tup, idxW_lk, listW_tup, tupW_tup, zipW_tup, opS_addI, opS_subI, opS_mulI, opS_fdivI, opS_modI, opS_powI, opS_addT, opS_addS, opW_addI, opW_subI, opW_mulI, opW_addS, ltW_int, ltW_str, ieq_t, ieq_f, ilt_t, ilt_f, ile_t, ile_f, cm_eq, cm_ne, cm_lt, cm_gt, cm_le, cm_ge, cm_in, cm_ni, cm_is, cm_isnt, eqW_int, eqW_str, eqW_bl, idxW_tup, atI_0, atI_1, atI_2, optQ_some, bindT_name, bindT_tup, bindTs_nil, bindTs_cons, wFor_nil, wFor_cons, zipD_cons, zipD_nil, zipD_nil2, List.set_cons_zero, List.set_cons_succ, true_and, and_true, List.length_cons, List.length_nil, Nat.zero_add, Nat.reduceAdd]
  exact Wp.ret (q f S' hf0 (by simpa using hf') hg)
/-! refused -/
def tab (x : Str) : Option Bool :=
  if x ∈ (["TooLong", "FellError", "ValueError"] : List Str) then some true
  else if x ∈ (["Endless", "NoBook", "NoDrop", "NoFall", "NoGrove", "NoKind", "NoLadder", "NoName", "NoNumber", "NoPlace", "NoReach", "NoRest", "NoRise", "NoRow", "NoRule", "NoWorths", "NotEndless", "TooGreat"] : List Str) then some false else none
def spRefused : FSp := ⟨1, fun ds S Q _ => ∃ g : Grv, ds = [g.d] ∧ g.Ok ∧ g.len ≤ 64 ∧ g.dep ≤ 42 ∧ 400 < szN g ∧ ∀ S', Grew [] S S' → Q (.bl true) S'⟩
theorem k_law_refused {C : Env'} {TL FE : Addr} (h1 : C.fn "orders" = some (spOrders TL)) (h2 : C.ex "FellError" = some FE) (h3 : C.sub TL = tab) : Keeps C b_law_refused n_law_refused spRefused := by
  rintro ds S Q E - ⟨g, rfl, ho, hl, hd, hs, q⟩
  show wpSs C _ b_law_refused [some _, none, none] S _
  unfold b_law_refused
  try simp only [wpSs, wpS, wpI, wpE, wpEs, wpB, wpO, wpT, getV, btW, bmW, bmTy, on1_one, on2_two, onI_int, onB_bl, intW_int, intW_bl, lenW_tup, seqW_tup, lenW_ul, lenW_ud, idxW_ul, seqW_ul, lstW_ul, listW_ul, listW_ud, tupW_ul, onL_ul, atL_ul, setiW_u0, setiW_u1, slcW_ul, Store.upd_upd, lenW_lk, seqW_lk, lstW_lk, listW_lk, slcW_lk, slcW_tup, idxW_lk, listW_tup, tupW_tup, zipW_tup, opS_addI, opS_subI, opS_mulI, opS_fdivI, opS_modI, opS_powI, opS_addT, opS_addS, opW_addI, opW_subI, opW_mulI, opW_addS, ltW_int, ltW_str, ieq_t, ieq_f, ilt_t, ilt_f, ile_t, ile_f, cm_eq, cm_ne, cm_lt, cm_gt, cm_le, cm_ge, cm_in, cm_ni, cm_is, cm_isnt, eqW_int, eqW_str, eqW_bl, idxW_tup, atI_0, atI_1, atI_2, optQ_some, bindT_name, bindT_tup, bindTs_nil, bindTs_cons, wFor_nil, wFor_cons, zipD_cons, zipD_nil, zipD_nil2, List.set_cons_zero, List.set_cons_succ, true_and, and_true, List.length_cons, List.length_nil, Nat.zero_add, Nat.reduceAdd, h1, h2]
  intro l hl0
  refine ⟨rfl, rfl, g, rfl, ho, hl, hd, fun _ => ?_, fun z => by omega⟩
  unfold tryW
  have e1 : C.sub TL (Str.ofString "FellError") = some true := by rw [h3]; decide +kernel
  simp only [e1]
  refine ⟨trivial, fun a ha => ?_⟩
  obtain ⟨hal, ha0⟩ := upd_none ha
  have a1 : allSub tab [Str.ofString "TooLong"] = true := by decide +kernel
  have a2 : isxB tab [Str.ofString "TooLong"] = some true := by decide +kernel
  have b1 : allSub tab [Str.ofString "ValueError"] = true := by decide +kernel
  have b2 : isxB tab [Str.ofString "ValueError"] = some true := by decide +kernel
  have c1 : allSub tab [Str.ofString "Endless", Str.ofString "NoBook", Str.ofString "NoDrop", Str.ofString "NoFall", Str.ofString "NoGrove", Str.ofString "NoKind", Str.ofString "NoLadder", Str.ofString "NoName"] = true := by decide +kernel
  have c2 : isxB tab [Str.ofString "Endless", Str.ofString "NoBook", Str.ofString "NoDrop", Str.ofString "NoFall", Str.ofString "NoGrove", Str.ofString "NoKind", Str.ofString "NoLadder", Str.ofString "NoName"] = some false := by decide +kernel
  have d1 : allSub tab [Str.ofString "NoNumber", Str.ofString "NoPlace", Str.ofString "NoReach", Str.ofString "NoRest", Str.ofString "NoRise", Str.ofString "NoRow", Str.ofString "NoRule"] = true := by decide +kernel
  have d2 : isxB tab [Str.ofString "NoNumber", Str.ofString "NoPlace", Str.ofString "NoReach", Str.ofString "NoRest", Str.ofString "NoRise", Str.ofString "NoRow", Str.ofString "NoRule"] = some false := by decide +kernel
  have f1 : allSub tab [Str.ofString "NoWorths", Str.ofString "NotEndless", Str.ofString "TooGreat"] = true := by decide +kernel
  have f2 : isxB tab [Str.ofString "NoWorths", Str.ofString "NotEndless", Str.ofString "TooGreat"] = some false := by decide +kernel
  try simp only [wpSs, wpS, wpI, wpE, wpEs, wpB, wpO, wpT, getV, btW, bmW, bmTy, on1_one, on2_two, onI_int, onB_bl, intW_int, intW_bl, lenW_tup, seqW_tup, lenW_ul, lenW_ud, idxW_ul, seqW_ul, lstW_ul, listW_ul, listW_ud, tupW_ul, onL_ul, atL_ul, setiW_u0, setiW_u1, slcW_ul, Store.upd_upd, lenW_lk, seqW_lk, lstW_lk, listW_lk, slcW_lk, slcW_tup, idxW_lk, listW_tup, tupW_tup, zipW_tup, opS_addI, opS_subI, opS_mulI, opS_fdivI, opS_modI, opS_powI, opS_addT, opS_addS, opW_addI, opW_subI, opW_mulI, opW_addS, ltW_int, ltW_str, ieq_t, ieq_f, ilt_t, ilt_f, ile_t, ile_f, cm_eq, cm_ne, cm_lt, cm_gt, cm_le, cm_ge, cm_in, cm_ni, cm_is, cm_isnt, eqW_int, eqW_str, eqW_bl, idxW_tup, atI_0, atI_1, atI_2, optQ_some, bindT_name, bindT_tup, bindTs_nil, bindTs_cons, wFor_nil, wFor_cons, zipD_cons, zipD_nil, zipD_nil2, List.set_cons_zero, List.set_cons_succ, true_and, and_true, List.length_cons, List.length_nil, Nat.zero_add, Nat.reduceAdd, wpHs, isxW, h3, a1, a2, b1, b2, c1, c2, d1, d2, f1, f2]
  intro s hs0
  simp only [List.length_nil, List.length_cons, List.length_append]
  try simp only [wpSs, wpS, wpI, wpE, wpEs, wpB, wpO, wpT, getV, btW, bmW, bmTy, on1_one, on2_two, onI_int, onB_bl, intW_int, intW_bl, lenW_tup, seqW_tup, lenW_ul, lenW_ud, idxW_ul, seqW_ul, lstW_ul, listW_ul, listW_ud, tupW_ul, onL_ul, atL_ul, setiW_u0, setiW_u1, slcW_ul, Store.upd_upd, lenW_lk, seqW_lk, lstW_lk, listW_lk, slcW_lk, slcW_tup, idxW_lk, listW_tup, tupW_tup, zipW_tup, opS_addI, opS_subI, opS_mulI, opS_fdivI, opS_modI, opS_powI, opS_addT, opS_addS, opW_addI, opW_subI, opW_mulI, opW_addS, ltW_int, ltW_str, ieq_t, ieq_f, ilt_t, ilt_f, ile_t, ile_f, cm_eq, cm_ne, cm_lt, cm_gt, cm_le, cm_ge, cm_in, cm_ni, cm_is, cm_isnt, eqW_int, eqW_str, eqW_bl, idxW_tup, atI_0, atI_1, atI_2, optQ_some, bindT_name, bindT_tup, bindTs_nil, bindTs_cons, wFor_nil, wFor_cons, zipD_cons, zipD_nil, zipD_nil2, List.set_cons_zero, List.set_cons_succ, true_and, and_true, List.length_cons, List.length_nil, Nat.zero_add, Nat.reduceAdd, List.cons_append, List.nil_append]
  refine ⟨by unfold sizeLine; omega, by unfold sizeLine; omega, by unfold sizeLine; omega, ?_⟩
  intro t ht
  obtain ⟨hts, ht0⟩ := upd_none ht
  obtain ⟨hsl, hs1⟩ := upd_none hs0
  rw [eqW_lsts ((Store.upd_ne hts.symm).trans Store.upd_same) Store.upd_same (by decide) (by decide) (by decide +kernel) (by decide +kernel) (by decide +kernel)]
  refine Wp.ret ?_
  have e : PyData.eqvAll (pys [D.bl true, D.bl true, D.bl false, D.bl false, D.bl false]) (pys [D.bl true, D.bl true, D.bl false, D.bl false, D.bl false]) = true := by decide +kernel
  rw [e]
  exact q _ (((Grew.new hl0).thenNew hs0).thenNew ht)
end K68
end

section
set_option maxHeartbeats 8000000
namespace K68
open PySem L2 Fel
theorem isiW_int {S : Store} (x : Int) (k : Bool → Prop) : isiW S (.int x) "int" k = k true := rfl
theorem isiW_intb {S : Store} (x : Int) (k : Bool → Prop) : isiW S (.int x) "bool" k = k false := rfl
def spRight : FSp := ⟨1, fun ds S Q _ => ∃ g : Grv, ds = [g.d] ∧ g.Ok ∧ g.len ≤ 64 ∧ g.dep ≤ 42 ∧ ∀ S', Grew [] S S' → Q (.bl true) S'⟩
theorem mul_turns {C : Env'} {S : Store} {E : XW} {rt : K1} {a0 a1 a4 : Option D} {st : Store → Prop} {nx : KR} (hst : st S) : ∀ (xs : List Nat) (f : Nat) (a3 : Option D), (∀ x ∈ xs, x ≤ 400) → (∀ a3, nx [a0, a1, some (natD (f * prl xs)), a3, a4] S) →
    wFor (bindT (.name 3)) (fun ρ S k => wpSs C E b_law_right_L1 ρ S ⟨k, rt⟩) st (xs.map natD) [a0, a1, some (natD f), a3, a4] S nx
  | [], f, a3, _, hn => ⟨hst, by simpa [prl] using hn a3⟩
  | x :: xs, f, a3, hx, hn => by
    simp only [List.map_cons]
    rw [wFor_cons]
    refine ⟨hst, ?_⟩
    have ih := mul_turns (C := C) (E := E) (rt := rt) (a0 := a0) (a1 := a1) (a4 := a4) (nx := nx) hst xs (f * x) (some (natD x)) (fun y h => hx y (List.mem_cons_of_mem _ h)) (by rw [Nat.mul_assoc]; exact hn)
    have hx0 := hx x List.mem_cons_self
    try simp only [wpSs, wpS, wpI, wpE, wpEs, wpB, wpO, wpT, getV, btW, bmW, bmTy, on1_one, on2_two, onI_int, onB_bl, intW_int, intW_bl, lenW_tup, seqW_tup, lenW_ul, lenW_ud, idxW_ul, seqW_ul, lstW_ul, listW_ul, listW_ud, tupW_ul, onL_ul, atL_ul, setiW_u0, setiW_u1, slcW_ul, Store.upd_upd, lenW_lk, seqW_lk, lstW_lk, listW_lk, slcW_lk, slcW_tup, idxW_lk, listW_tup, tupW_tup, zipW_tup, opS_addI, opS_subI, opS_mulI, opS_fdivI, opS_modI, opS_powI, opS_addT, opS_addS, opW_addI, opW_subI, opW_mulI, opW_addS, ltW_int, ltW_str, ieq_t, ieq_f, ilt_t, ilt_f, ile_t, ile_f, cm_eq, cm_ne, cm_lt, cm_gt, cm_le, cm_ge, cm_in, cm_ni, cm_is, cm_isnt, eqW_int, eqW_str, eqW_bl, idxW_tup, atI_0, atI_1, atI_2, optQ_some, bindT_name, bindT_tup, bindTs_nil, bindTs_cons, wFor_nil, wFor_cons, zipD_cons, zipD_nil, zipD_nil2, List.set_cons_zero, List.set_cons_succ, true_and, and_true, List.length_cons, List.length_nil, Nat.zero_add, Nat.reduceAdd]
    generalize hk : (fun ρ2 S2 => wFor (bindT (.name 3)) (fun ρ S k => wpSs C E b_law_right_L1 ρ S ⟨k, rt⟩) st (xs.map natD) ρ2 S2 nx) = kk
    unfold b_law_right_L1
    unfold natD
    try simp only [wpSs, wpS, wpI, wpE, wpEs, wpB, wpO, wpT, getV, btW, bmW, bmTy, on1_one, on2_two, onI_int, onB_bl, intW_int, intW_bl, lenW_tup, seqW_tup, lenW_ul, lenW_ud, idxW_ul, seqW_ul, lstW_ul, listW_ul, listW_ud, tupW_ul, onL_ul, atL_ul, setiW_u0, setiW_u1, slcW_ul, Store.upd_upd, lenW_lk, seqW_lk, lstW_lk, listW_lk, slcW_lk, slcW_tup, idxW_lk, listW_tup, tupW_tup, zipW_tup, opS_addI, opS_subI, opS_mulI, opS_fdivI, opS_modI, opS_powI, opS_addT, opS_addS, opW_addI, opW_subI, opW_mulI, opW_addS, ltW_int, ltW_str, ieq_t, ieq_f, ilt_t, ilt_f, ile_t, ile_f, cm_eq, cm_ne, cm_lt, cm_gt, cm_le, cm_ge, cm_in, cm_ni, cm_is, cm_isnt, eqW_int, eqW_str, eqW_bl, idxW_tup, atI_0, atI_1, atI_2, optQ_some, bindT_name, bindT_tup, bindTs_nil, bindTs_cons, wFor_nil, wFor_cons, zipD_cons, zipD_nil, zipD_nil2, List.set_cons_zero, List.set_cons_succ, true_and, and_true, List.length_cons, List.length_nil, Nat.zero_add, Nat.reduceAdd]
    refine ⟨mul_r (by omega) (by omega), ?_⟩
    rw [← hk, ← Int.natCast_mul]
    exact ih
theorem div_turns {C : Env'} {S : Store} {E : XW} {rt : K1} {a0 a1 a3 : Option D} {N : Nat} {nx : KR} : ∀ (n t q : Nat) (a4 : Option D), t + n = N → N ≤ 400 → q * fact t = fact N → (∀ a4, nx [a0, a1, some (natD 1), a3, a4] S) →
    wFor (bindT (.name 4)) (fun ρ S k => wpSs C E b_law_right_L0 ρ S ⟨k, rt⟩) (fun _ => True) ((List.range' t n).map fun (i : Nat) => D.int (1 + i)) [a0, a1, some (natD q), a3, a4] S nx
  | 0, t, q, a4, h1, h2, h3, hn => by
    simp only [List.range'_zero, List.map_nil]
    try simp only [wpSs, wpS, wpI, wpE, wpEs, wpB, wpO, wpT, getV, btW, bmW, bmTy, on1_one, on2_two, onI_int, onB_bl, intW_int, intW_bl, lenW_tup, seqW_tup, lenW_ul, lenW_ud, idxW_ul, seqW_ul, lstW_ul, listW_ul, listW_ud, tupW_ul, onL_ul, atL_ul, setiW_u0, setiW_u1, slcW_ul, Store.upd_upd, lenW_lk, seqW_lk, lstW_lk, listW_lk, slcW_lk, slcW_tup, idxW_lk, listW_tup, tupW_tup, zipW_tup, opS_addI, opS_subI, opS_mulI, opS_fdivI, opS_modI, opS_powI, opS_addT, opS_addS, opW_addI, opW_subI, opW_mulI, opW_addS, ltW_int, ltW_str, ieq_t, ieq_f, ilt_t, ilt_f, ile_t, ile_f, cm_eq, cm_ne, cm_lt, cm_gt, cm_le, cm_ge, cm_in, cm_ni, cm_is, cm_isnt, eqW_int, eqW_str, eqW_bl, idxW_tup, atI_0, atI_1, atI_2, optQ_some, bindT_name, bindT_tup, bindTs_nil, bindTs_cons, wFor_nil, wFor_cons, zipD_cons, zipD_nil, zipD_nil2, List.set_cons_zero, List.set_cons_succ, true_and, and_true, List.length_cons, List.length_nil, Nat.zero_add, Nat.reduceAdd]
    have e : t = N := by omega
    subst e
    have hp := fact_pos t
    have : q = 1 := by
      have : q * fact t = 1 * fact t := by omega
      exact Nat.eq_of_mul_eq_mul_right hp this
    subst this
    exact hn a4
  | n + 1, t, q, a4, h1, h2, h3, hn => by
    simp only [List.range'_succ, List.map_cons]
    obtain ⟨w, hw⟩ := fact_dvd (t := t + 1) (n := N) (by omega)
    have hq : q = (t + 1) * w := by
      have hp := fact_pos t
      refine Nat.eq_of_mul_eq_mul_right hp ?_
      rw [h3, hw]
      show (t + 1) * fact t * w = _
      rw [Nat.mul_assoc, Nat.mul_assoc, Nat.mul_comm w]
    rw [wFor_cons]
    try simp only [wpSs, wpS, wpI, wpE, wpEs, wpB, wpO, wpT, getV, btW, bmW, bmTy, on1_one, on2_two, onI_int, onB_bl, intW_int, intW_bl, lenW_tup, seqW_tup, lenW_ul, lenW_ud, idxW_ul, seqW_ul, lstW_ul, listW_ul, listW_ud, tupW_ul, onL_ul, atL_ul, setiW_u0, setiW_u1, slcW_ul, Store.upd_upd, lenW_lk, seqW_lk, lstW_lk, listW_lk, slcW_lk, slcW_tup, idxW_lk, listW_tup, tupW_tup, zipW_tup, opS_addI, opS_subI, opS_mulI, opS_fdivI, opS_modI, opS_powI, opS_addT, opS_addS, opW_addI, opW_subI, opW_mulI, opW_addS, ltW_int, ltW_str, ieq_t, ieq_f, ilt_t, ilt_f, ile_t, ile_f, cm_eq, cm_ne, cm_lt, cm_gt, cm_le, cm_ge, cm_in, cm_ni, cm_is, cm_isnt, eqW_int, eqW_str, eqW_bl, idxW_tup, atI_0, atI_1, atI_2, optQ_some, bindT_name, bindT_tup, bindTs_nil, bindTs_cons, wFor_nil, wFor_cons, zipD_cons, zipD_nil, zipD_nil2, List.set_cons_zero, List.set_cons_succ, true_and, and_true, List.length_cons, List.length_nil, Nat.zero_add, Nat.reduceAdd]
    have ih := div_turns (C := C) (S := S) (E := E) (rt := rt) (a0 := a0) (a1 := a1) (a3 := a3) (N := N) (nx := nx) n (t + 1) w (some (.int (1 + t))) (by omega) h2 (by rw [hw, Nat.mul_comm]) hn
    generalize hk : (fun ρ2 S2 => wFor (bindT (.name 4)) (fun ρ S k => wpSs C E b_law_right_L0 ρ S ⟨k, rt⟩) (fun _ => True) ((List.range' (t + 1) n).map fun (i : Nat) => D.int (1 + i)) ρ2 S2 nx) = kk
    unfold b_law_right_L0
    unfold natD
    try simp only [wpSs, wpS, wpI, wpE, wpEs, wpB, wpO, wpT, getV, btW, bmW, bmTy, on1_one, on2_two, onI_int, onB_bl, intW_int, intW_bl, lenW_tup, seqW_tup, lenW_ul, lenW_ud, idxW_ul, seqW_ul, lstW_ul, listW_ul, listW_ud, tupW_ul, onL_ul, atL_ul, setiW_u0, setiW_u1, slcW_ul, Store.upd_upd, lenW_lk, seqW_lk, lstW_lk, listW_lk, slcW_lk, slcW_tup, idxW_lk, listW_tup, tupW_tup, zipW_tup, opS_addI, opS_subI, opS_mulI, opS_fdivI, opS_modI, opS_powI, opS_addT, opS_addS, opW_addI, opW_subI, opW_mulI, opW_addS, ltW_int, ltW_str, ieq_t, ieq_f, ilt_t, ilt_f, ile_t, ile_f, cm_eq, cm_ne, cm_lt, cm_gt, cm_le, cm_ge, cm_in, cm_ni, cm_is, cm_isnt, eqW_int, eqW_str, eqW_bl, idxW_tup, atI_0, atI_1, atI_2, optQ_some, bindT_name, bindT_tup, bindTs_nil, bindTs_cons, wFor_nil, wFor_cons, zipD_cons, zipD_nil, zipD_nil2, List.set_cons_zero, List.set_cons_succ, true_and, and_true, List.length_cons, List.length_nil, Nat.zero_add, Nat.reduceAdd]
    have e1 : ((q : Nat) : Int) = (1 + (t : Int)) * (w : Int) := by rw [hq, Int.natCast_mul, Int.natCast_add, Int.add_comm]; rfl
    have e2 : ((q : Nat) : Int) % (1 + (t : Int)) = 0 := by rw [e1]; exact Int.mul_emod_right _ _
    have e3 : ((q : Nat) : Int) / (1 + (t : Int)) = (w : Int) := by rw [e1]; exact Int.mul_ediv_cancel_left _ (by omega)
    rw [e2, e3]
    refine ⟨by omega, ifn (by decide) ⟨cdiv (by omega) (by omega), ?_⟩⟩
    rw [← hk]
    exact ih
theorem k_law_right {C : Env'} {TL : Addr} (h1 : C.fn "_law_size" = some (spSize 44)) (h2 : C.fn "_law_refused" = some spRefused) (h3 : C.fn "orders" = some (spOrders TL)) (h4 : C.fn "_law_sizes" = some (spLSizes 44)) : Keeps C b_law_right n_law_right spRight := by
  rintro ds S Q E - ⟨g, rfl, ho, hl, hd, q⟩
  show wpSs C _ b_law_right [some _, none, none, none, none] S _
  unfold b_law_right
  try simp only [wpSs, wpS, wpI, wpE, wpEs, wpB, wpO, wpT, getV, btW, bmW, bmTy, on1_one, on2_two, onI_int, onB_bl, intW_int, intW_bl, lenW_tup, seqW_tup, lenW_ul, lenW_ud, idxW_ul, seqW_ul, lstW_ul, listW_ul, listW_ud, tupW_ul, onL_ul, atL_ul, setiW_u0, setiW_u1, slcW_ul, Store.upd_upd, lenW_lk, seqW_lk, lstW_lk, listW_lk, slcW_lk, slcW_tup, idxW_lk, listW_tup, tupW_tup, zipW_tup, opS_addI, opS_subI, opS_mulI, opS_fdivI, opS_modI, opS_powI, opS_addT, opS_addS, opW_addI, opW_subI, opW_mulI, opW_addS, ltW_int, ltW_str, ieq_t, ieq_f, ilt_t, ilt_f, ile_t, ile_f, cm_eq, cm_ne, cm_lt, cm_gt, cm_le, cm_ge, cm_in, cm_ni, cm_is, cm_isnt, eqW_int, eqW_str, eqW_bl, idxW_tup, atI_0, atI_1, atI_2, optQ_some, bindT_name, bindT_tup, bindTs_nil, bindTs_cons, wFor_nil, wFor_cons, zipD_cons, zipD_nil, zipD_nil2, List.set_cons_zero, List.set_cons_succ, true_and, and_true, List.length_cons, List.length_nil, Nat.zero_add, Nat.reduceAdd, h1, h2, h3, h4]
  refine ⟨rfl, g, rfl, ho, hl, by omega, hd, ?_⟩
  try simp only [wpSs, wpS, wpI, wpE, wpEs, wpB, wpO, wpT, getV, btW, bmW, bmTy, on1_one, on2_two, onI_int, onB_bl, intW_int, intW_bl, lenW_tup, seqW_tup, lenW_ul, lenW_ud, idxW_ul, seqW_ul, lstW_ul, listW_ul, listW_ud, tupW_ul, onL_ul, atL_ul, setiW_u0, setiW_u1, slcW_ul, Store.upd_upd, lenW_lk, seqW_lk, lstW_lk, listW_lk, slcW_lk, slcW_tup, idxW_lk, listW_tup, tupW_tup, zipW_tup, opS_addI, opS_subI, opS_mulI, opS_fdivI, opS_modI, opS_powI, opS_addT, opS_addS, opW_addI, opW_subI, opW_mulI, opW_addS, ltW_int, ltW_str, ieq_t, ieq_f, ilt_t, ilt_f, ile_t, ile_f, cm_eq, cm_ne, cm_lt, cm_gt, cm_le, cm_ge, cm_in, cm_ni, cm_is, cm_isnt, eqW_int, eqW_str, eqW_bl, idxW_tup, atI_0, atI_1, atI_2, optQ_some, bindT_name, bindT_tup, bindTs_nil, bindTs_cons, wFor_nil, wFor_cons, zipD_cons, zipD_nil, zipD_nil2, List.set_cons_zero, List.set_cons_succ, true_and, and_true, List.length_cons, List.length_nil, Nat.zero_add, Nat.reduceAdd, h1, h2, h3, h4]
  rw [size_N ho]
  refine ifc (fun c => ⟨rfl, g, rfl, ho, hl, hd, by omega, fun S' g' => Wp.ret (q S' g')⟩) fun c => ?_
  have hs : szN g ≤ 400 := by omega
  refine ⟨rfl, g, rfl, ho, hl, hd, fun z => by omega, fun _ => ?_⟩
  try simp only [wpSs, wpS, wpI, wpE, wpEs, wpB, wpO, wpT, getV, btW, bmW, bmTy, on1_one, on2_two, onI_int, onB_bl, intW_int, intW_bl, lenW_tup, seqW_tup, lenW_ul, lenW_ud, idxW_ul, seqW_ul, lstW_ul, listW_ul, listW_ud, tupW_ul, onL_ul, atL_ul, setiW_u0, setiW_u1, slcW_ul, Store.upd_upd, lenW_lk, seqW_lk, lstW_lk, listW_lk, slcW_lk, slcW_tup, idxW_lk, listW_tup, tupW_tup, zipW_tup, opS_addI, opS_subI, opS_mulI, opS_fdivI, opS_modI, opS_powI, opS_addT, opS_addS, opW_addI, opW_subI, opW_mulI, opW_addS, ltW_int, ltW_str, ieq_t, ieq_f, ilt_t, ilt_f, ile_t, ile_f, cm_eq, cm_ne, cm_lt, cm_gt, cm_le, cm_ge, cm_in, cm_ni, cm_is, cm_isnt, eqW_int, eqW_str, eqW_bl, idxW_tup, atI_0, atI_1, atI_2, optQ_some, bindT_name, bindT_tup, bindTs_nil, bindTs_cons, wFor_nil, wFor_cons, zipD_cons, zipD_nil, zipD_nil2, List.set_cons_zero, List.set_cons_succ, true_and, and_true, List.length_cons, List.length_nil, Nat.zero_add, Nat.reduceAdd, isiW_int, isiW_intb, h4]
  have hp := prd_pos g
  have hdv := prd_dvd g
  have hF : 1 ≤ fact (szN g) / prd g := Nat.div_pos (Nat.le_of_dvd (fact_pos _) hdv) hp
  refine ifn (by decide) (ifn (by decide) (ifn (by omega) ⟨rfl, g, rfl, ho, hl, by omega, hd, hs, fun r S1 hr0 hr g1 => ?_⟩))
  try simp only [wpSs, wpS, wpI, wpE, wpEs, wpB, wpO, wpT, getV, btW, bmW, bmTy, on1_one, on2_two, onI_int, onB_bl, intW_int, intW_bl, lenW_tup, seqW_tup, lenW_ul, lenW_ud, idxW_ul, seqW_ul, lstW_ul, listW_ul, listW_ud, tupW_ul, onL_ul, atL_ul, setiW_u0, setiW_u1, slcW_ul, Store.upd_upd, lenW_lk, seqW_lk, lstW_lk, listW_lk, slcW_lk, slcW_tup, idxW_lk, listW_tup, tupW_tup, zipW_tup, opS_addI, opS_subI, opS_mulI, opS_fdivI, opS_modI, opS_powI, opS_addT, opS_addS, opW_addI, opW_subI, opW_mulI, opW_addS, ltW_int, ltW_str, ieq_t, ieq_f, ilt_t, ilt_f, ile_t, ile_f, cm_eq, cm_ne, cm_lt, cm_gt, cm_le, cm_ge, cm_in, cm_ni, cm_is, cm_isnt, eqW_int, eqW_str, eqW_bl, idxW_tup, atI_0, atI_1, atI_2, optQ_some, bindT_name, bindT_tup, bindTs_nil, bindTs_cons, wFor_nil, wFor_cons, zipD_cons, zipD_nil, zipD_nil2, List.set_cons_zero, List.set_cons_succ, true_and, and_true, List.length_cons, List.length_nil, Nat.zero_add, Nat.reduceAdd]
  rw [seqW_lst hr]
  have e5 : fact (szN g) / prd g * prl (szs g) = fact (szN g) := by rw [prl_szs]; exact Nat.div_mul_cancel hdv
  refine mul_turns hr (szs g) (fact (szN g) / prd g) _ (fun x hx => by have := (szs_le ho x hx).2; omega) fun a3 => ?_
  rw [e5]
  try simp only [wpSs, wpS, wpI, wpE, wpEs, wpB, wpO, wpT, getV, btW, bmW, bmTy, on1_one, on2_two, onI_int, onB_bl, intW_int, intW_bl, lenW_tup, seqW_tup, lenW_ul, lenW_ud, idxW_ul, seqW_ul, lstW_ul, listW_ul, listW_ud, tupW_ul, onL_ul, atL_ul, setiW_u0, setiW_u1, slcW_ul, Store.upd_upd, lenW_lk, seqW_lk, lstW_lk, listW_lk, slcW_lk, slcW_tup, idxW_lk, listW_tup, tupW_tup, zipW_tup, opS_addI, opS_subI, opS_mulI, opS_fdivI, opS_modI, opS_powI, opS_addT, opS_addS, opW_addI, opW_subI, opW_mulI, opW_addS, ltW_int, ltW_str, ieq_t, ieq_f, ilt_t, ilt_f, ile_t, ile_f, cm_eq, cm_ne, cm_lt, cm_gt, cm_le, cm_ge, cm_in, cm_ni, cm_is, cm_isnt, eqW_int, eqW_str, eqW_bl, idxW_tup, atI_0, atI_1, atI_2, optQ_some, bindT_name, bindT_tup, bindTs_nil, bindTs_cons, wFor_nil, wFor_cons, zipD_cons, zipD_nil, zipD_nil2, List.set_cons_zero, List.set_cons_succ, true_and, and_true, List.length_cons, List.length_nil, Nat.zero_add, Nat.reduceAdd]
  refine ⟨by omega, by omega, by omega, by omega, by omega, ?_⟩
  have e0 : rngD 1 ((szN g : Int) + 1 - 1).toNat = (List.range' 0 (szN g)).map fun (i : Nat) => D.int (1 + i) := by
    have : ((szN g : Int) + 1 - 1).toNat = szN g := by omega
    rw [this, ← List.range_eq_range']
    rfl
  rw [e0]
  refine div_turns (N := szN g) (szN g) 0 (fact (szN g)) _ (by omega) hs (by simp [fact]) fun a4 => ?_
  unfold natD
  try simp only [wpSs, wpS, wpI, wpE, wpEs, wpB, wpO, wpT, getV, btW, bmW, bmTy, on1_one, on2_two, onI_int, onB_bl, intW_int, intW_bl, lenW_tup, seqW_tup, lenW_ul, lenW_ud, idxW_ul, seqW_ul, lstW_ul, listW_ul, listW_ud, tupW_ul, onL_ul, atL_ul, setiW_u0, setiW_u1, slcW_ul, Store.upd_upd, lenW_lk, seqW_lk, lstW_lk, listW_lk, slcW_lk, slcW_tup, idxW_lk, listW_tup, tupW_tup, zipW_tup, opS_addI, opS_subI, opS_mulI, opS_fdivI, opS_modI, opS_powI, opS_addT, opS_addS, opW_addI, opW_subI, opW_mulI, opW_addS, ltW_int, ltW_str, ieq_t, ieq_f, ilt_t, ilt_f, ile_t, ile_f, cm_eq, cm_ne, cm_lt, cm_gt, cm_le, cm_ge, cm_in, cm_ni, cm_is, cm_isnt, eqW_int, eqW_str, eqW_bl, idxW_tup, atI_0, atI_1, atI_2, optQ_some, bindT_name, bindT_tup, bindTs_nil, bindTs_cons, wFor_nil, wFor_cons, zipD_cons, zipD_nil, zipD_nil2, List.set_cons_zero, List.set_cons_succ, true_and, and_true, List.length_cons, List.length_nil, Nat.zero_add, Nat.reduceAdd]
  have e : ieq ((1 : Nat) : Int) 1 = true := by decide
  rw [e]
  exact Wp.ret (q _ g1)
/-! the law -/
def spLaw : FSp := ⟨1, fun ds S Q _ => ∃ is : List Int, ds = [.lk (is.map .int)] ∧ ∀ S', Q (.bl true) S'⟩
theorem rowB_ok {ys : List Grv.Row} {n : Nat} {B : Int} (h : ∀ y ∈ ys, RowB n B y) : (Grv.ofL ys).Ok ∧ (Grv.ofL ys).dep ≤ n := Grv.ok_ofL fun y hy => (h y hy).1
theorem k_law {C : Env'} (h1 : C.fn "_law_purse" = some spPurse) (h2 : C.fn "_law_take" = some spTake) (h3 : C.fn "_law_names" = some spNames) (h4 : C.fn "_law_grove" = some spGrove) (h5 : C.fn "_law_right" = some spRight) (h6 : C.fn "_law_size" = some (spSize 44)) (h7 : C.fn "_law_tidy" = some spTidy) : Keeps C b_law n_law spLaw := by
  rintro ds S Q E - ⟨is, rfl, q⟩
  show wpSs C _ b_law [some _, none, none, none, none, none, none, none, none] S _
  unfold b_law
  try simp only [wpSs, wpS, wpI, wpE, wpEs, wpB, wpO, wpT, getV, btW, bmW, bmTy, on1_one, on2_two, onI_int, onB_bl, intW_int, intW_bl, lenW_tup, seqW_tup, lenW_ul, lenW_ud, idxW_ul, seqW_ul, lstW_ul, listW_ul, listW_ud, tupW_ul, onL_ul, atL_ul, setiW_u0, setiW_u1, slcW_ul, Store.upd_upd, lenW_lk, seqW_lk, lstW_lk, listW_lk, slcW_lk, slcW_tup, idxW_lk, listW_tup, tupW_tup, zipW_tup, opS_addI, opS_subI, opS_mulI, opS_fdivI, opS_modI, opS_powI, opS_addT, opS_addS, opW_addI, opW_subI, opW_mulI, opW_addS, ltW_int, ltW_str, ieq_t, ieq_f, ilt_t, ilt_f, ile_t, ile_f, cm_eq, cm_ne, cm_lt, cm_gt, cm_le, cm_ge, cm_in, cm_ni, cm_is, cm_isnt, eqW_int, eqW_str, eqW_bl, idxW_tup, atI_0, atI_1, atI_2, optQ_some, bindT_name, bindT_tup, bindTs_nil, bindTs_cons, wFor_nil, wFor_cons, zipD_cons, zipD_nil, zipD_nil2, List.set_cons_zero, List.set_cons_succ, true_and, and_true, List.length_cons, List.length_nil, Nat.zero_add, Nat.reduceAdd, h1, h2, h3, h4, h5, h6, h7]
  refine ⟨rfl, is, 0, rfl, by decide, by decide, fun p S1 hp hp1 g1 => ?_⟩
  try simp only [wpSs, wpS, wpI, wpE, wpEs, wpB, wpO, wpT, getV, btW, bmW, bmTy, on1_one, on2_two, onI_int, onB_bl, intW_int, intW_bl, lenW_tup, seqW_tup, lenW_ul, lenW_ud, idxW_ul, seqW_ul, lstW_ul, listW_ul, listW_ud, tupW_ul, onL_ul, atL_ul, setiW_u0, setiW_u1, slcW_ul, Store.upd_upd, lenW_lk, seqW_lk, lstW_lk, listW_lk, slcW_lk, slcW_tup, idxW_lk, listW_tup, tupW_tup, zipW_tup, opS_addI, opS_subI, opS_mulI, opS_fdivI, opS_modI, opS_powI, opS_addT, opS_addS, opW_addI, opW_subI, opW_mulI, opW_addS, ltW_int, ltW_str, ieq_t, ieq_f, ilt_t, ilt_f, ile_t, ile_f, cm_eq, cm_ne, cm_lt, cm_gt, cm_le, cm_ge, cm_in, cm_ni, cm_is, cm_isnt, eqW_int, eqW_str, eqW_bl, idxW_tup, atI_0, atI_1, atI_2, optQ_some, bindT_name, bindT_tup, bindTs_nil, bindTs_cons, wFor_nil, wFor_cons, zipD_cons, zipD_nil, zipD_nil2, List.set_cons_zero, List.set_cons_succ, true_and, and_true, List.length_cons, List.length_nil, Nat.zero_add, Nat.reduceAdd, h1, h2, h3, h4, h5, h6, h7]
  refine ⟨rfl, is, 1, rfl, by decide, by decide, fun p2 S2 hp2 hpp2 g2 => ?_⟩
  try simp only [wpSs, wpS, wpI, wpE, wpEs, wpB, wpO, wpT, getV, btW, bmW, bmTy, on1_one, on2_two, onI_int, onB_bl, intW_int, intW_bl, lenW_tup, seqW_tup, lenW_ul, lenW_ud, idxW_ul, seqW_ul, lstW_ul, listW_ul, listW_ud, tupW_ul, onL_ul, atL_ul, setiW_u0, setiW_u1, slcW_ul, Store.upd_upd, lenW_lk, seqW_lk, lstW_lk, listW_lk, slcW_lk, slcW_tup, idxW_lk, listW_tup, tupW_tup, zipW_tup, opS_addI, opS_subI, opS_mulI, opS_fdivI, opS_modI, opS_powI, opS_addT, opS_addS, opW_addI, opW_subI, opW_mulI, opW_addS, ltW_int, ltW_str, ieq_t, ieq_f, ilt_t, ilt_f, ile_t, ile_f, cm_eq, cm_ne, cm_lt, cm_gt, cm_le, cm_ge, cm_in, cm_ni, cm_is, cm_isnt, eqW_int, eqW_str, eqW_bl, idxW_tup, atI_0, atI_1, atI_2, optQ_some, bindT_name, bindT_tup, bindTs_nil, bindTs_cons, wFor_nil, wFor_cons, zipD_cons, zipD_nil, zipD_nil2, List.set_cons_zero, List.set_cons_succ, true_and, and_true, List.length_cons, List.length_nil, Nat.zero_add, Nat.reduceAdd, h1, h2, h3, h4, h5, h6, h7]
  refine ⟨rfl, p2, rfl, hpp2, fun nm zs S3 z1 z2 z3 z4 z5 hp3 g3 => ?_⟩
  try simp only [wpSs, wpS, wpI, wpE, wpEs, wpB, wpO, wpT, getV, btW, bmW, bmTy, on1_one, on2_two, onI_int, onB_bl, intW_int, intW_bl, lenW_tup, seqW_tup, lenW_ul, lenW_ud, idxW_ul, seqW_ul, lstW_ul, listW_ul, listW_ud, tupW_ul, onL_ul, atL_ul, setiW_u0, setiW_u1, slcW_ul, Store.upd_upd, lenW_lk, seqW_lk, lstW_lk, listW_lk, slcW_lk, slcW_tup, idxW_lk, listW_tup, tupW_tup, zipW_tup, opS_addI, opS_subI, opS_mulI, opS_fdivI, opS_modI, opS_powI, opS_addT, opS_addS, opW_addI, opW_subI, opW_mulI, opW_addS, ltW_int, ltW_str, ieq_t, ieq_f, ilt_t, ilt_f, ile_t, ile_f, cm_eq, cm_ne, cm_lt, cm_gt, cm_le, cm_ge, cm_in, cm_ni, cm_is, cm_isnt, eqW_int, eqW_str, eqW_bl, idxW_tup, atI_0, atI_1, atI_2, optQ_some, bindT_name, bindT_tup, bindTs_nil, bindTs_cons, wFor_nil, wFor_cons, zipD_cons, zipD_nil, zipD_nil2, List.set_cons_zero, List.set_cons_succ, true_and, and_true, List.length_cons, List.length_nil, Nat.zero_add, Nat.reduceAdd, h1, h2, h3, h4, h5, h6, h7]
  have hpp : p ≠ p2 := by rintro rfl; exact hp1.ne hp2
  have pp3 : Purse S3 p := (hp1.grew g2 (by simp)).grew g3 (by simpa using hpp)
  intro l hl
  have hlnm : l ≠ nm := by rintro rfl; rw [z4] at hl; cases hl
  have hlp : l ≠ p := by rintro rfl; exact pp3.ne hl
  refine ⟨rfl, p, 3, rfl, pp3.grew (Grew.new hl (l := [])) (by simp), by decide, by decide, fun w S4 w1 w2 hp4 g4 => ?_⟩
  have l4 : S4 l = some (.lst [.int 3, .int 9, .int 41]) := g4 _ _ (by simpa using hlp) Store.upd_same
  -- the names' list is none of the purse
  have hnp : nm ≠ p := by
    rintro rfl
    obtain ⟨a, b, e, _⟩ := pp3
    rw [z4] at e
    rcases zs with _ | ⟨z, _ | ⟨z', zs⟩⟩ <;> simp at e
  have nm4 : S4 nm = some (.lst (zs.map .str)) := g4 _ _ (by simpa using hnp) (by rw [Store.upd_ne (Ne.symm hlnm)]; exact z4)
  try simp only [wpSs, wpS, wpI, wpE, wpEs, wpB, wpO, wpT, getV, btW, bmW, bmTy, on1_one, on2_two, onI_int, onB_bl, intW_int, intW_bl, lenW_tup, seqW_tup, lenW_ul, lenW_ud, idxW_ul, seqW_ul, lstW_ul, listW_ul, listW_ud, tupW_ul, onL_ul, atL_ul, setiW_u0, setiW_u1, slcW_ul, Store.upd_upd, lenW_lk, seqW_lk, lstW_lk, listW_lk, slcW_lk, slcW_tup, idxW_lk, listW_tup, tupW_tup, zipW_tup, opS_addI, opS_subI, opS_mulI, opS_fdivI, opS_modI, opS_powI, opS_addT, opS_addS, opW_addI, opW_subI, opW_mulI, opW_addS, ltW_int, ltW_str, ieq_t, ieq_f, ilt_t, ilt_f, ile_t, ile_f, cm_eq, cm_ne, cm_lt, cm_gt, cm_le, cm_ge, cm_in, cm_ni, cm_is, cm_isnt, eqW_int, eqW_str, eqW_bl, idxW_tup, atI_0, atI_1, atI_2, optQ_some, bindT_name, bindT_tup, bindTs_nil, bindTs_cons, wFor_nil, wFor_cons, zipD_cons, zipD_nil, zipD_nil2, List.set_cons_zero, List.set_cons_succ, true_and, and_true, List.length_cons, List.length_nil, Nat.zero_add, Nat.reduceAdd, idxW_lst l4]
  have hw : ∃ k : Int, atI [D.int 3, D.int 9, D.int 41] w = some (.int k) ∧ 0 < k ∧ k ≤ 41 := by
    have : w = 0 ∨ w = 1 ∨ w = 2 := by omega
    rcases this with rfl | rfl | rfl
    · exact ⟨3, rfl, by decide, by decide⟩
    · exact ⟨9, rfl, by decide, by decide⟩
    · exact ⟨41, rfl, by decide, by decide⟩
  obtain ⟨kk, hkk, hk1, hk2⟩ := hw
  rw [hkk]
  try simp only [wpSs, wpS, wpI, wpE, wpEs, wpB, wpO, wpT, getV, btW, bmW, bmTy, on1_one, on2_two, onI_int, onB_bl, intW_int, intW_bl, lenW_tup, seqW_tup, lenW_ul, lenW_ud, idxW_ul, seqW_ul, lstW_ul, listW_ul, listW_ud, tupW_ul, onL_ul, atL_ul, setiW_u0, setiW_u1, slcW_ul, Store.upd_upd, lenW_lk, seqW_lk, lstW_lk, listW_lk, slcW_lk, slcW_tup, idxW_lk, listW_tup, tupW_tup, zipW_tup, opS_addI, opS_subI, opS_mulI, opS_fdivI, opS_modI, opS_powI, opS_addT, opS_addS, opW_addI, opW_subI, opW_mulI, opW_addS, ltW_int, ltW_str, ieq_t, ieq_f, ilt_t, ilt_f, ile_t, ile_f, cm_eq, cm_ne, cm_lt, cm_gt, cm_le, cm_ge, cm_in, cm_ni, cm_is, cm_isnt, eqW_int, eqW_str, eqW_bl, idxW_tup, atI_0, atI_1, atI_2, optQ_some, bindT_name, bindT_tup, bindTs_nil, bindTs_cons, wFor_nil, wFor_cons, zipD_cons, zipD_nil, zipD_nil2, List.set_cons_zero, List.set_cons_succ, true_and, and_true, List.length_cons, List.length_nil, Nat.zero_add, Nat.reduceAdd, h1, h2, h3, h4, h5, h6, h7]
  refine ⟨rfl, p, kk, rfl, hp4, hk1, by omega, fun m S5 m1 m2 hp5 g5 => ?_⟩
  have nm5 := g5 _ _ (by simpa using hnp) nm4
  try simp only [wpSs, wpS, wpI, wpE, wpEs, wpB, wpO, wpT, getV, btW, bmW, bmTy, on1_one, on2_two, onI_int, onB_bl, intW_int, intW_bl, lenW_tup, seqW_tup, lenW_ul, lenW_ud, idxW_ul, seqW_ul, lstW_ul, listW_ul, listW_ud, tupW_ul, onL_ul, atL_ul, setiW_u0, setiW_u1, slcW_ul, Store.upd_upd, lenW_lk, seqW_lk, lstW_lk, listW_lk, slcW_lk, slcW_tup, idxW_lk, listW_tup, tupW_tup, zipW_tup, opS_addI, opS_subI, opS_mulI, opS_fdivI, opS_modI, opS_powI, opS_addT, opS_addS, opW_addI, opW_subI, opW_mulI, opW_addS, ltW_int, ltW_str, ieq_t, ieq_f, ilt_t, ilt_f, ile_t, ile_f, cm_eq, cm_ne, cm_lt, cm_gt, cm_le, cm_ge, cm_in, cm_ni, cm_is, cm_isnt, eqW_int, eqW_str, eqW_bl, idxW_tup, atI_0, atI_1, atI_2, optQ_some, bindT_name, bindT_tup, bindTs_nil, bindTs_cons, wFor_nil, wFor_cons, zipD_cons, zipD_nil, zipD_nil2, List.set_cons_zero, List.set_cons_succ, true_and, and_true, List.length_cons, List.length_nil, Nat.zero_add, Nat.reduceAdd, h1, h2, h3, h4, h5, h6, h7]
  refine ⟨cpow (by decide) (by decide) (by decide), fun l2 hl2 => ?_⟩
  have hl2nm : l2 ≠ nm := by rintro rfl; rw [nm5] at hl2; cases hl2
  have hl2p : l2 ≠ p := by rintro rfl; exact hp5.ne hl2
  refine ⟨rfl, p, 3, rfl, hp5.grew (Grew.new hl2 (l := [])) (by simp), by decide, by decide, fun v S6 v1 v2 hp6 g6 => ?_⟩
  have l6 : S6 l2 = some (.lst [.int 1, .int 9, .int (10 ^ (50 : Int).toNat)]) := g6 _ _ (by simpa using hl2p) Store.upd_same
  have nm6 : S6 nm = some (.lst (zs.map .str)) := g6 _ _ (by simpa using hnp) (by rw [Store.upd_ne (Ne.symm hl2nm)]; exact nm5)
  try simp only [wpSs, wpS, wpI, wpE, wpEs, wpB, wpO, wpT, getV, btW, bmW, bmTy, on1_one, on2_two, onI_int, onB_bl, intW_int, intW_bl, lenW_tup, seqW_tup, lenW_ul, lenW_ud, idxW_ul, seqW_ul, lstW_ul, listW_ul, listW_ud, tupW_ul, onL_ul, atL_ul, setiW_u0, setiW_u1, slcW_ul, Store.upd_upd, lenW_lk, seqW_lk, lstW_lk, listW_lk, slcW_lk, slcW_tup, idxW_lk, listW_tup, tupW_tup, zipW_tup, opS_addI, opS_subI, opS_mulI, opS_fdivI, opS_modI, opS_powI, opS_addT, opS_addS, opW_addI, opW_subI, opW_mulI, opW_addS, ltW_int, ltW_str, ieq_t, ieq_f, ilt_t, ilt_f, ile_t, ile_f, cm_eq, cm_ne, cm_lt, cm_gt, cm_le, cm_ge, cm_in, cm_ni, cm_is, cm_isnt, eqW_int, eqW_str, eqW_bl, idxW_tup, atI_0, atI_1, atI_2, optQ_some, bindT_name, bindT_tup, bindTs_nil, bindTs_cons, wFor_nil, wFor_cons, zipD_cons, zipD_nil, zipD_nil2, List.set_cons_zero, List.set_cons_succ, true_and, and_true, List.length_cons, List.length_nil, Nat.zero_add, Nat.reduceAdd, idxW_lst l6]
  have hw : ∃ k : Int, atI [D.int 1, D.int 9, D.int (10 ^ (50 : Int).toNat)] v = some (.int k) ∧ 1 ≤ k ∧ k ≤ 10 ^ 50 := by
    have : v = 0 ∨ v = 1 ∨ v = 2 := by omega
    rcases this with rfl | rfl | rfl
    · exact ⟨1, rfl, by decide, by decide⟩
    · exact ⟨9, rfl, by decide, by decide⟩
    · exact ⟨10 ^ (50 : Int).toNat, rfl, by decide, by decide⟩
  obtain ⟨gr, hgr, gr1, gr2⟩ := hw
  rw [hgr]
  try simp only [wpSs, wpS, wpI, wpE, wpEs, wpB, wpO, wpT, getV, btW, bmW, bmTy, on1_one, on2_two, onI_int, onB_bl, intW_int, intW_bl, lenW_tup, seqW_tup, lenW_ul, lenW_ud, idxW_ul, seqW_ul, lstW_ul, listW_ul, listW_ud, tupW_ul, onL_ul, atL_ul, setiW_u0, setiW_u1, slcW_ul, Store.upd_upd, lenW_lk, seqW_lk, lstW_lk, listW_lk, slcW_lk, slcW_tup, idxW_lk, listW_tup, tupW_tup, zipW_tup, opS_addI, opS_subI, opS_mulI, opS_fdivI, opS_modI, opS_powI, opS_addT, opS_addS, opW_addI, opW_subI, opW_mulI, opW_addS, ltW_int, ltW_str, ieq_t, ieq_f, ilt_t, ilt_f, ile_t, ile_f, cm_eq, cm_ne, cm_lt, cm_gt, cm_le, cm_ge, cm_in, cm_ni, cm_is, cm_isnt, eqW_int, eqW_str, eqW_bl, idxW_tup, atI_0, atI_1, atI_2, optQ_some, bindT_name, bindT_tup, bindTs_nil, bindTs_cons, wFor_nil, wFor_cons, zipD_cons, zipD_nil, zipD_nil2, List.set_cons_zero, List.set_cons_succ, true_and, and_true, List.length_cons, List.length_nil, Nat.zero_add, Nat.reduceAdd, h1, h2, h3, h4, h5, h6, h7]
  refine ⟨rfl, is, m, nm, gr, zs, rfl, m1, by omega, z1, z2, z3, nm6, gr1, gr2, fun ys S7 y1 y2 g7 => ?_⟩
  obtain ⟨o1, o2⟩ := rowB_ok y1
  have nm7 := g7 _ _ (by simp) nm6
  have hlen : (Grv.ofL ys).len ≤ 64 := by rw [Grv.len_ofL]; omega
  try simp only [wpSs, wpS, wpI, wpE, wpEs, wpB, wpO, wpT, getV, btW, bmW, bmTy, on1_one, on2_two, onI_int, onB_bl, intW_int, intW_bl, lenW_tup, seqW_tup, lenW_ul, lenW_ud, idxW_ul, seqW_ul, lstW_ul, listW_ul, listW_ud, tupW_ul, onL_ul, atL_ul, setiW_u0, setiW_u1, slcW_ul, Store.upd_upd, lenW_lk, seqW_lk, lstW_lk, listW_lk, slcW_lk, slcW_tup, idxW_lk, listW_tup, tupW_tup, zipW_tup, opS_addI, opS_subI, opS_mulI, opS_fdivI, opS_modI, opS_powI, opS_addT, opS_addS, opW_addI, opW_subI, opW_mulI, opW_addS, ltW_int, ltW_str, ieq_t, ieq_f, ilt_t, ilt_f, ile_t, ile_f, cm_eq, cm_ne, cm_lt, cm_gt, cm_le, cm_ge, cm_in, cm_ni, cm_is, cm_isnt, eqW_int, eqW_str, eqW_bl, idxW_tup, atI_0, atI_1, atI_2, optQ_some, bindT_name, bindT_tup, bindTs_nil, bindTs_cons, wFor_nil, wFor_cons, zipD_cons, zipD_nil, zipD_nil2, List.set_cons_zero, List.set_cons_succ, true_and, and_true, List.length_cons, List.length_nil, Nat.zero_add, Nat.reduceAdd, h1, h2, h3, h4, h5, h6, h7]
  refine ⟨rfl, Grv.ofL ys, rfl, o1, hlen, by omega, fun S8 g8 => ?_⟩
  try simp only [wpSs, wpS, wpI, wpE, wpEs, wpB, wpO, wpT, getV, btW, bmW, bmTy, on1_one, on2_two, onI_int, onB_bl, intW_int, intW_bl, lenW_tup, seqW_tup, lenW_ul, lenW_ud, idxW_ul, seqW_ul, lstW_ul, listW_ul, listW_ud, tupW_ul, onL_ul, atL_ul, setiW_u0, setiW_u1, slcW_ul, Store.upd_upd, lenW_lk, seqW_lk, lstW_lk, listW_lk, slcW_lk, slcW_tup, idxW_lk, listW_tup, tupW_tup, zipW_tup, opS_addI, opS_subI, opS_mulI, opS_fdivI, opS_modI, opS_powI, opS_addT, opS_addS, opW_addI, opW_subI, opW_mulI, opW_addS, ltW_int, ltW_str, ieq_t, ieq_f, ilt_t, ilt_f, ile_t, ile_f, cm_eq, cm_ne, cm_lt, cm_gt, cm_le, cm_ge, cm_in, cm_ni, cm_is, cm_isnt, eqW_int, eqW_str, eqW_bl, idxW_tup, atI_0, atI_1, atI_2, optQ_some, bindT_name, bindT_tup, bindTs_nil, bindTs_cons, wFor_nil, wFor_cons, zipD_cons, zipD_nil, zipD_nil2, List.set_cons_zero, List.set_cons_succ, true_and, and_true, List.length_cons, List.length_nil, Nat.zero_add, Nat.reduceAdd, h1, h2, h3, h4, h5, h6, h7]
  refine ifn (by decide) ⟨rfl, .nil, rfl, trivial, by decide, by decide, fun S9 g9 => ?_⟩
  try simp only [wpSs, wpS, wpI, wpE, wpEs, wpB, wpO, wpT, getV, btW, bmW, bmTy, on1_one, on2_two, onI_int, onB_bl, intW_int, intW_bl, lenW_tup, seqW_tup, lenW_ul, lenW_ud, idxW_ul, seqW_ul, lstW_ul, listW_ul, listW_ud, tupW_ul, onL_ul, atL_ul, setiW_u0, setiW_u1, slcW_ul, Store.upd_upd, lenW_lk, seqW_lk, lstW_lk, listW_lk, slcW_lk, slcW_tup, idxW_lk, listW_tup, tupW_tup, zipW_tup, opS_addI, opS_subI, opS_mulI, opS_fdivI, opS_modI, opS_powI, opS_addT, opS_addS, opW_addI, opW_subI, opW_mulI, opW_addS, ltW_int, ltW_str, ieq_t, ieq_f, ilt_t, ilt_f, ile_t, ile_f, cm_eq, cm_ne, cm_lt, cm_gt, cm_le, cm_ge, cm_in, cm_ni, cm_is, cm_isnt, eqW_int, eqW_str, eqW_bl, idxW_tup, atI_0, atI_1, atI_2, optQ_some, bindT_name, bindT_tup, bindTs_nil, bindTs_cons, wFor_nil, wFor_cons, zipD_cons, zipD_nil, zipD_nil2, List.set_cons_zero, List.set_cons_succ, true_and, and_true, List.length_cons, List.length_nil, Nat.zero_add, Nat.reduceAdd, h1, h2, h3, h4, h5, h6, h7]
  refine ifn (by decide) ⟨rfl, Grv.ofL ys, rfl, o1, hlen, by omega, by omega, ?_⟩
  have nm9 := g9 _ _ (by simp) (g8 _ _ (by simp) nm7)
  try simp only [wpSs, wpS, wpI, wpE, wpEs, wpB, wpO, wpT, getV, btW, bmW, bmTy, on1_one, on2_two, onI_int, onB_bl, intW_int, intW_bl, lenW_tup, seqW_tup, lenW_ul, lenW_ud, idxW_ul, seqW_ul, lstW_ul, listW_ul, listW_ud, tupW_ul, onL_ul, atL_ul, setiW_u0, setiW_u1, slcW_ul, Store.upd_upd, lenW_lk, seqW_lk, lstW_lk, listW_lk, slcW_lk, slcW_tup, idxW_lk, listW_tup, tupW_tup, zipW_tup, opS_addI, opS_subI, opS_mulI, opS_fdivI, opS_modI, opS_powI, opS_addT, opS_addS, opW_addI, opW_subI, opW_mulI, opW_addS, ltW_int, ltW_str, ieq_t, ieq_f, ilt_t, ilt_f, ile_t, ile_f, cm_eq, cm_ne, cm_lt, cm_gt, cm_le, cm_ge, cm_in, cm_ni, cm_is, cm_isnt, eqW_int, eqW_str, eqW_bl, idxW_tup, atI_0, atI_1, atI_2, optQ_some, bindT_name, bindT_tup, bindTs_nil, bindTs_cons, wFor_nil, wFor_cons, zipD_cons, zipD_nil, zipD_nil2, List.set_cons_zero, List.set_cons_succ, true_and, and_true, List.length_cons, List.length_nil, Nat.zero_add, Nat.reduceAdd, h1, h2, h3, h4, h5, h6, h7]
  have hsn := Grv.size_nn o1
  refine ifc (fun c => Wp.ret (q _)) fun c => ?_
  try simp only [wpSs, wpS, wpI, wpE, wpEs, wpB, wpO, wpT, getV, btW, bmW, bmTy, on1_one, on2_two, onI_int, onB_bl, intW_int, intW_bl, lenW_tup, seqW_tup, lenW_ul, lenW_ud, idxW_ul, seqW_ul, lstW_ul, listW_ul, listW_ud, tupW_ul, onL_ul, atL_ul, setiW_u0, setiW_u1, slcW_ul, Store.upd_upd, lenW_lk, seqW_lk, lstW_lk, listW_lk, slcW_lk, slcW_tup, idxW_lk, listW_tup, tupW_tup, zipW_tup, opS_addI, opS_subI, opS_mulI, opS_fdivI, opS_modI, opS_powI, opS_addT, opS_addS, opW_addI, opW_subI, opW_mulI, opW_addS, ltW_int, ltW_str, ieq_t, ieq_f, ilt_t, ilt_f, ile_t, ile_f, cm_eq, cm_ne, cm_lt, cm_gt, cm_le, cm_ge, cm_in, cm_ni, cm_is, cm_isnt, eqW_int, eqW_str, eqW_bl, idxW_tup, atI_0, atI_1, atI_2, optQ_some, bindT_name, bindT_tup, bindTs_nil, bindTs_cons, wFor_nil, wFor_cons, zipD_cons, zipD_nil, zipD_nil2, List.set_cons_zero, List.set_cons_succ, true_and, and_true, List.length_cons, List.length_nil, Nat.zero_add, Nat.reduceAdd, idxW_lst nm9]
  obtain ⟨z0, zr, rfl⟩ : ∃ z0 zr, zs = z0 :: zr := by cases zs with | nil => exact absurd rfl z1 | cons a b => exact ⟨a, b, rfl⟩
  simp only [List.map_cons]
  try simp only [wpSs, wpS, wpI, wpE, wpEs, wpB, wpO, wpT, getV, btW, bmW, bmTy, on1_one, on2_two, onI_int, onB_bl, intW_int, intW_bl, lenW_tup, seqW_tup, lenW_ul, lenW_ud, idxW_ul, seqW_ul, lstW_ul, listW_ul, listW_ud, tupW_ul, onL_ul, atL_ul, setiW_u0, setiW_u1, slcW_ul, Store.upd_upd, lenW_lk, seqW_lk, lstW_lk, listW_lk, slcW_lk, slcW_tup, idxW_lk, listW_tup, tupW_tup, zipW_tup, opS_addI, opS_subI, opS_mulI, opS_fdivI, opS_modI, opS_powI, opS_addT, opS_addS, opW_addI, opW_subI, opW_mulI, opW_addS, ltW_int, ltW_str, ieq_t, ieq_f, ilt_t, ilt_f, ile_t, ile_f, cm_eq, cm_ne, cm_lt, cm_gt, cm_le, cm_ge, cm_in, cm_ni, cm_is, cm_isnt, eqW_int, eqW_str, eqW_bl, idxW_tup, atI_0, atI_1, atI_2, optQ_some, bindT_name, bindT_tup, bindTs_nil, bindTs_cons, wFor_nil, wFor_cons, zipD_cons, zipD_nil, zipD_nil2, List.set_cons_zero, List.set_cons_succ, true_and, and_true, List.length_cons, List.length_nil, Nat.zero_add, Nat.reduceAdd, h1, h2, h3, h4, h5, h6, h7]
  intro l3 hl3
  have turn : ∀ (i : Int) (S' : Store) (k : KR), 1 ≤ i → i ≤ 401 → S' l3 = some (.lst [.int (400 - (Grv.ofL ys).size), .int (400 - (Grv.ofL ys).size + 1)]) →
      (∀ S'', S'' l3 = some (.lst [.int (400 - (Grv.ofL ys).size), .int (400 - (Grv.ofL ys).size + 1)]) → k [some (.lk (is.map .int)), some (.ref p), some (.ref nm), some (.int m), some (.int gr), some (.tup (ys.map Grv.rowD)), some (.int (400 - (Grv.ofL ys).size)), some (.tup [.str z0, .tup []]), some (.int i)] S'') →
      wpSs C (fun c g _ S' => ∃ S'', Sub S'' S' ∧ E c g S'') b_law_L0 [some (.lk (is.map .int)), some (.ref p), some (.ref nm), some (.int m), some (.int gr), some (.tup (ys.map Grv.rowD)), some (.int (400 - (Grv.ofL ys).size)), some (.tup [.str z0, .tup []]), some (.int i)] S' ⟨k, fun d S' => ∃ S'', Sub S'' S' ∧ Q d S''⟩ := by
    intro i S' k i1 i2 hl3' hk
    unfold b_law_L0
    try simp only [wpSs, wpS, wpI, wpE, wpEs, wpB, wpO, wpT, getV, btW, bmW, bmTy, on1_one, on2_two, onI_int, onB_bl, intW_int, intW_bl, lenW_tup, seqW_tup, lenW_ul, lenW_ud, idxW_ul, seqW_ul, lstW_ul, listW_ul, listW_ud, tupW_ul, onL_ul, atL_ul, setiW_u0, setiW_u1, slcW_ul, Store.upd_upd, lenW_lk, seqW_lk, lstW_lk, listW_lk, slcW_lk, slcW_tup, idxW_lk, listW_tup, tupW_tup, zipW_tup, opS_addI, opS_subI, opS_mulI, opS_fdivI, opS_modI, opS_powI, opS_addT, opS_addS, opW_addI, opW_subI, opW_mulI, opW_addS, ltW_int, ltW_str, ieq_t, ieq_f, ilt_t, ilt_f, ile_t, ile_f, cm_eq, cm_ne, cm_lt, cm_gt, cm_le, cm_ge, cm_in, cm_ni, cm_is, cm_isnt, eqW_int, eqW_str, eqW_bl, idxW_tup, atI_0, atI_1, atI_2, optQ_some, bindT_name, bindT_tup, bindTs_nil, bindTs_cons, wFor_nil, wFor_cons, zipD_cons, zipD_nil, zipD_nil2, List.set_cons_zero, List.set_cons_succ, true_and, and_true, List.length_cons, List.length_nil, Nat.zero_add, Nat.reduceAdd, h5, h7]
    intro t1 ht1 t2 ht2
    obtain ⟨ht21, ht20⟩ := upd_none ht2
    rw [opS_addL ((Store.upd_ne ht21.symm).trans Store.upd_same) Store.upd_same]
    refine ⟨by simp only [List.length_map, List.length_cons, List.length_nil]; unfold sizeLine; omega, fun t3 ht3 => ?_⟩
    try simp only [wpSs, wpS, wpI, wpE, wpEs, wpB, wpO, wpT, getV, btW, bmW, bmTy, on1_one, on2_two, onI_int, onB_bl, intW_int, intW_bl, lenW_tup, seqW_tup, lenW_ul, lenW_ud, idxW_ul, seqW_ul, lstW_ul, listW_ul, listW_ud, tupW_ul, onL_ul, atL_ul, setiW_u0, setiW_u1, slcW_ul, Store.upd_upd, lenW_lk, seqW_lk, lstW_lk, listW_lk, slcW_lk, slcW_tup, idxW_lk, listW_tup, tupW_tup, zipW_tup, opS_addI, opS_subI, opS_mulI, opS_fdivI, opS_modI, opS_powI, opS_addT, opS_addS, opW_addI, opW_subI, opW_mulI, opW_addS, ltW_int, ltW_str, ieq_t, ieq_f, ilt_t, ilt_f, ile_t, ile_f, cm_eq, cm_ne, cm_lt, cm_gt, cm_le, cm_ge, cm_in, cm_ni, cm_is, cm_isnt, eqW_int, eqW_str, eqW_bl, idxW_tup, atI_0, atI_1, atI_2, optQ_some, bindT_name, bindT_tup, bindTs_nil, bindTs_cons, wFor_nil, wFor_cons, zipD_cons, zipD_nil, zipD_nil2, List.set_cons_zero, List.set_cons_succ, true_and, and_true, List.length_cons, List.length_nil, Nat.zero_add, Nat.reduceAdd, h5, h7]
    obtain ⟨ht32, ht3b⟩ := upd_none ht3
    obtain ⟨ht31, ht30⟩ := upd_none ht3b
    have e : ys.map Grv.rowD ++ [D.tup [D.tup [D.str z0, D.tup []], D.int i]] = (ys ++ [((z0, Grv.nil), i)]).map Grv.rowD := by simp [Grv.rowD, Grv.treeD, Grv.d, Grv.enc]
    rw [e]
    have hB : ∀ x ∈ ys ++ [((z0, Grv.nil), i)], RowB 41 (40 * 10 ^ 50) x := by
      intro x hx
      rcases List.mem_append.1 hx with h | h
      · exact y1 x h
      · simp only [List.mem_singleton] at h
        subst h
        exact ⟨⟨trivial, by simp [Grv.len], i1, by simp only; omega, by simp [Grv.dep], z3 _ (by simp)⟩, by simp only; omega⟩
    have hl41 : (ys ++ [((z0, Grv.nil), i)]).length ≤ 41 := by simp only [List.length_append, List.length_singleton]; omega
    have hm : ((ys ++ [((z0, Grv.nil), i)]).length : Int) * (40 * 10 ^ 50) ≤ 41 * (40 * 10 ^ 50) := Int.mul_le_mul_of_nonneg_right (by omega) (by decide)
    refine ⟨rfl, t3, _, 41, _, rfl, Store.upd_same, hB, by decide, by omega, by decide, ?_, fun ws S'' w1 w2 g'' => ?_⟩
    · have e : (41 * (40 * 10 ^ 50) : Int) < 2 ^ 180 := by decide
      omega
    obtain ⟨p1, p2⟩ := rowB_ok w1
    refine ⟨rfl, Grv.ofL ws, rfl, p1, by rw [Grv.len_ofL]; omega, by omega, fun S3' g3' => ?_⟩
    try simp only [wpSs, wpS, wpI, wpE, wpEs, wpB, wpO, wpT, getV, btW, bmW, bmTy, on1_one, on2_two, onI_int, onB_bl, intW_int, intW_bl, lenW_tup, seqW_tup, lenW_ul, lenW_ud, idxW_ul, seqW_ul, lstW_ul, listW_ul, listW_ud, tupW_ul, onL_ul, atL_ul, setiW_u0, setiW_u1, slcW_ul, Store.upd_upd, lenW_lk, seqW_lk, lstW_lk, listW_lk, slcW_lk, slcW_tup, idxW_lk, listW_tup, tupW_tup, zipW_tup, opS_addI, opS_subI, opS_mulI, opS_fdivI, opS_modI, opS_powI, opS_addT, opS_addS, opW_addI, opW_subI, opW_mulI, opW_addS, ltW_int, ltW_str, ieq_t, ieq_f, ilt_t, ilt_f, ile_t, ile_f, cm_eq, cm_ne, cm_lt, cm_gt, cm_le, cm_ge, cm_in, cm_ni, cm_is, cm_isnt, eqW_int, eqW_str, eqW_bl, idxW_tup, atI_0, atI_1, atI_2, optQ_some, bindT_name, bindT_tup, bindTs_nil, bindTs_cons, wFor_nil, wFor_cons, zipD_cons, zipD_nil, zipD_nil2, List.set_cons_zero, List.set_cons_succ, true_and, and_true, List.length_cons, List.length_nil, Nat.zero_add, Nat.reduceAdd]
    refine ifn (by decide) (hk _ ?_)
    · refine g3' _ _ (by simp) (g'' _ _ (by simp) ?_)
      have n : ∀ {z : Addr}, S' z = none → l3 ≠ z := fun h => by rintro rfl; rw [hl3'] at h; cases h
      rw [Store.upd_ne (n ht30), Store.upd_ne (n ht20), Store.upd_ne (n ht1)]; exact hl3'
  rw [Grv.d_toL, Grv.to_of]
  refine ⟨Store.upd_same, turn _ _ _ (by omega) (by omega) Store.upd_same fun S' h' => ⟨h', ?_⟩⟩
  try simp only [wpSs, wpS, wpI, wpE, wpEs, wpB, wpO, wpT, getV, btW, bmW, bmTy, on1_one, on2_two, onI_int, onB_bl, intW_int, intW_bl, lenW_tup, seqW_tup, lenW_ul, lenW_ud, idxW_ul, seqW_ul, lstW_ul, listW_ul, listW_ud, tupW_ul, onL_ul, atL_ul, setiW_u0, setiW_u1, slcW_ul, Store.upd_upd, lenW_lk, seqW_lk, lstW_lk, listW_lk, slcW_lk, slcW_tup, idxW_lk, listW_tup, tupW_tup, zipW_tup, opS_addI, opS_subI, opS_mulI, opS_fdivI, opS_modI, opS_powI, opS_addT, opS_addS, opW_addI, opW_subI, opW_mulI, opW_addS, ltW_int, ltW_str, ieq_t, ieq_f, ilt_t, ilt_f, ile_t, ile_f, cm_eq, cm_ne, cm_lt, cm_gt, cm_le, cm_ge, cm_in, cm_ni, cm_is, cm_isnt, eqW_int, eqW_str, eqW_bl, idxW_tup, atI_0, atI_1, atI_2, optQ_some, bindT_name, bindT_tup, bindTs_nil, bindTs_cons, wFor_nil, wFor_cons, zipD_cons, zipD_nil, zipD_nil2, List.set_cons_zero, List.set_cons_succ, true_and, and_true, List.length_cons, List.length_nil, Nat.zero_add, Nat.reduceAdd]
  exact turn _ _ _ (by omega) (by omega) h' fun S'' h'' => ⟨h'', Wp.ret (q _)⟩
end K68
end

section
set_option maxHeartbeats 8000000
namespace K68
open PySem L2 Fel
def C0 (TL FE : Addr) : Env' := { fn := fun _ => none, gl := fun x => if x = "MOST_SIZE" then some (.int 400) else (fun _ => none) x, ex := fun x => if x = "TooLong" then some TL else if x = "FellError" then some FE else none, sub := fun c => if c = TL then tab else fun _ => none }
def C1 (TL FE : Addr) : Env' := (C0 TL FE).add "size" (spSize 44)
def C2 (TL FE : Addr) : Env' := (C1 TL FE).add "sizes_of" (spSizes 44)
def C3 (TL FE : Addr) : Env' := (C2 TL FE).add "orders" (spOrders TL)
def C4 (TL FE : Addr) : Env' := (C3 TL FE).add "_law_purse" spPurse
def C5 (TL FE : Addr) : Env' := (C4 TL FE).add "_law_take" spTake
def C6 (TL FE : Addr) : Env' := (C5 TL FE).add "_law_names" spNames
def C7 (TL FE : Addr) : Env' := (C6 TL FE).add "_law_tidy" spTidy
def C8 (TL FE : Addr) : Env' := (C7 TL FE).add "_law_grove" spGrove
def C9 (TL FE : Addr) : Env' := (C8 TL FE).add "_law_size" (spSize 44)
def C10 (TL FE : Addr) : Env' := (C9 TL FE).add "_law_sizes" (spLSizes 44)
def C11 (TL FE : Addr) : Env' := (C10 TL FE).add "_law_refused" spRefused
def C12 (TL FE : Addr) : Env' := (C11 TL FE).add "_law_right" spRight
def C13 (TL FE : Addr) : Env' := (C12 TL FE).add "law" spLaw
theorem law_in {K : PySem.W.Frag} {H : Hp} {a : Addr} {ns : List Int} (hl : ns.length ≤ 63) (hO : Only H) (hS : SqL K H a (ns.map V.int)) : lift K spLaw [.ref a] H (fun v _ => v = .bl true) fun _ _ _ => False := law_only hO hS ⟨ns, rfl , fun _ => rfl⟩
theorem all_mk {l : PySem.W.OpenLaw} {w : World} {K : PySem.W.Frag} {h : Heap} {mg : Str → Option Value} {fa f1 f2 f3 f4 f5 f6 f7 f8 f9 f10 f11 f12 f13 : Addr} (X : K.In h) (G : h.Ns mainGlobals mg) (hfa : mg "law" = some (.ref fa))
    {o1 oa1 : Option Addr} {sl1 : Array (Option Value)} {oc1 kV1 dc1 pm1 cd1 ct1 : Value}
    (a1 : PySem.W.nsIn K mainGlobals "size" = some (some (.ref f1))) (l1 : K.lookup f1 = some ⟨oc1, o1, .func (PySem.W.fnOf "size" "size" (defArgs s_size) (defBody s_size) (defScope s_size) .none kV1 dc1 pm1 oa1 cd1 ct1), sl1⟩) (c1 : PySem.W.codeIn K cd1 "size" = true) (k1 : PySem.W.keepIn K (.ref f1) = true)
    {o2 oa2 : Option Addr} {sl2 : Array (Option Value)} {oc2 kV2 dc2 pm2 cd2 ct2 : Value}
    (a2 : PySem.W.nsIn K mainGlobals "sizes_of" = some (some (.ref f2))) (l2 : K.lookup f2 = some ⟨oc2, o2, .func (PySem.W.fnOf "sizes_of" "sizes_of" (defArgs s_sizes_of) (defBody s_sizes_of) (defScope s_sizes_of) .none kV2 dc2 pm2 oa2 cd2 ct2), sl2⟩) (c2 : PySem.W.codeIn K cd2 "sizes_of" = true) (k2 : PySem.W.keepIn K (.ref f2) = true)
    {o3 oa3 : Option Addr} {sl3 : Array (Option Value)} {oc3 kV3 dc3 pm3 cd3 ct3 : Value}
    (a3 : PySem.W.nsIn K mainGlobals "orders" = some (some (.ref f3))) (l3 : K.lookup f3 = some ⟨oc3, o3, .func (PySem.W.fnOf "orders" "orders" (defArgs s_orders) (defBody s_orders) (defScope s_orders) .none kV3 dc3 pm3 oa3 cd3 ct3), sl3⟩) (c3 : PySem.W.codeIn K cd3 "orders" = true) (k3 : PySem.W.keepIn K (.ref f3) = true)
    {o4 oa4 : Option Addr} {sl4 : Array (Option Value)} {oc4 kV4 dc4 pm4 cd4 ct4 : Value}
    (a4 : PySem.W.nsIn K mainGlobals "_law_purse" = some (some (.ref f4))) (l4 : K.lookup f4 = some ⟨oc4, o4, .func (PySem.W.fnOf "_law_purse" "_law_purse" (defArgs s_law_purse) (defBody s_law_purse) (defScope s_law_purse) .none kV4 dc4 pm4 oa4 cd4 ct4), sl4⟩) (c4 : PySem.W.codeIn K cd4 "_law_purse" = true) (k4 : PySem.W.keepIn K (.ref f4) = true)
    {o5 oa5 : Option Addr} {sl5 : Array (Option Value)} {oc5 kV5 dc5 pm5 cd5 ct5 : Value}
    (a5 : PySem.W.nsIn K mainGlobals "_law_take" = some (some (.ref f5))) (l5 : K.lookup f5 = some ⟨oc5, o5, .func (PySem.W.fnOf "_law_take" "_law_take" (defArgs s_law_take) (defBody s_law_take) (defScope s_law_take) .none kV5 dc5 pm5 oa5 cd5 ct5), sl5⟩) (c5 : PySem.W.codeIn K cd5 "_law_take" = true) (k5 : PySem.W.keepIn K (.ref f5) = true)
    {o6 oa6 : Option Addr} {sl6 : Array (Option Value)} {oc6 kV6 dc6 pm6 cd6 ct6 : Value}
    (a6 : PySem.W.nsIn K mainGlobals "_law_names" = some (some (.ref f6))) (l6 : K.lookup f6 = some ⟨oc6, o6, .func (PySem.W.fnOf "_law_names" "_law_names" (defArgs s_law_names) (defBody s_law_names) (defScope s_law_names) .none kV6 dc6 pm6 oa6 cd6 ct6), sl6⟩) (c6 : PySem.W.codeIn K cd6 "_law_names" = true) (k6 : PySem.W.keepIn K (.ref f6) = true)
    {o7 oa7 : Option Addr} {sl7 : Array (Option Value)} {oc7 kV7 dc7 pm7 cd7 ct7 : Value}
    (a7 : PySem.W.nsIn K mainGlobals "_law_tidy" = some (some (.ref f7))) (l7 : K.lookup f7 = some ⟨oc7, o7, .func (PySem.W.fnOf "_law_tidy" "_law_tidy" (defArgs s_law_tidy) (defBody s_law_tidy) (defScope s_law_tidy) .none kV7 dc7 pm7 oa7 cd7 ct7), sl7⟩) (c7 : PySem.W.codeIn K cd7 "_law_tidy" = true) (k7 : PySem.W.keepIn K (.ref f7) = true)
    {o8 oa8 : Option Addr} {sl8 : Array (Option Value)} {oc8 kV8 dc8 pm8 cd8 ct8 : Value}
    (a8 : PySem.W.nsIn K mainGlobals "_law_grove" = some (some (.ref f8))) (l8 : K.lookup f8 = some ⟨oc8, o8, .func (PySem.W.fnOf "_law_grove" "_law_grove" (defArgs s_law_grove) (defBody s_law_grove) (defScope s_law_grove) .none kV8 dc8 pm8 oa8 cd8 ct8), sl8⟩) (c8 : PySem.W.codeIn K cd8 "_law_grove" = true) (k8 : PySem.W.keepIn K (.ref f8) = true)
    {o9 oa9 : Option Addr} {sl9 : Array (Option Value)} {oc9 kV9 dc9 pm9 cd9 ct9 : Value}
    (a9 : PySem.W.nsIn K mainGlobals "_law_size" = some (some (.ref f9))) (l9 : K.lookup f9 = some ⟨oc9, o9, .func (PySem.W.fnOf "_law_size" "_law_size" (defArgs s_law_size) (defBody s_law_size) (defScope s_law_size) .none kV9 dc9 pm9 oa9 cd9 ct9), sl9⟩) (c9 : PySem.W.codeIn K cd9 "_law_size" = true) (k9 : PySem.W.keepIn K (.ref f9) = true)
    {o10 oa10 : Option Addr} {sl10 : Array (Option Value)} {oc10 kV10 dc10 pm10 cd10 ct10 : Value}
    (a10 : PySem.W.nsIn K mainGlobals "_law_sizes" = some (some (.ref f10))) (l10 : K.lookup f10 = some ⟨oc10, o10, .func (PySem.W.fnOf "_law_sizes" "_law_sizes" (defArgs s_law_sizes) (defBody s_law_sizes) (defScope s_law_sizes) .none kV10 dc10 pm10 oa10 cd10 ct10), sl10⟩) (c10 : PySem.W.codeIn K cd10 "_law_sizes" = true) (k10 : PySem.W.keepIn K (.ref f10) = true)
    {o11 oa11 : Option Addr} {sl11 : Array (Option Value)} {oc11 kV11 dc11 pm11 cd11 ct11 : Value}
    (a11 : PySem.W.nsIn K mainGlobals "_law_refused" = some (some (.ref f11))) (l11 : K.lookup f11 = some ⟨oc11, o11, .func (PySem.W.fnOf "_law_refused" "_law_refused" (defArgs s_law_refused) (defBody s_law_refused) (defScope s_law_refused) .none kV11 dc11 pm11 oa11 cd11 ct11), sl11⟩) (c11 : PySem.W.codeIn K cd11 "_law_refused" = true) (k11 : PySem.W.keepIn K (.ref f11) = true)
    {o12 oa12 : Option Addr} {sl12 : Array (Option Value)} {oc12 kV12 dc12 pm12 cd12 ct12 : Value}
    (a12 : PySem.W.nsIn K mainGlobals "_law_right" = some (some (.ref f12))) (l12 : K.lookup f12 = some ⟨oc12, o12, .func (PySem.W.fnOf "_law_right" "_law_right" (defArgs s_law_right) (defBody s_law_right) (defScope s_law_right) .none kV12 dc12 pm12 oa12 cd12 ct12), sl12⟩) (c12 : PySem.W.codeIn K cd12 "_law_right" = true) (k12 : PySem.W.keepIn K (.ref f12) = true)
    {o13 oa13 : Option Addr} {sl13 : Array (Option Value)} {oc13 kV13 dc13 pm13 cd13 ct13 : Value}
    (a13 : PySem.W.nsIn K mainGlobals "law" = some (some (.ref f13))) (l13 : K.lookup f13 = some ⟨oc13, o13, .func (PySem.W.fnOf "law" "law" (defArgs s_law) (defBody s_law) (defScope s_law) .none kV13 dc13 pm13 oa13 cd13 ct13), sl13⟩) (c13 : PySem.W.codeIn K cd13 "law" = true) (k13 : PySem.W.keepIn K (.ref f13) = true)
    {tMS : Tok}
    (gMS : PySem.W.nsIn K mainGlobals "MOST_SIZE" = some (some (.int 400 tMS)))
    {q1 : Addr} (na1 : PySem.W.nsIn K mainGlobals "TooLong" = some (some (.ref q1))) (ns1 : PySem.W.subIn K (.ref q1) (.ref q1) = some true) (nt1 : PySem.W.typeIn K (.ref q1) = some (.type "type")) (ni1 : PySem.W.isClsIn K q1 = true) (nb1 : PySem.W.subIn K (.ref q1) (.type "BaseException") = some true)
    {q2 : Addr} (na2 : PySem.W.nsIn K mainGlobals "FellError" = some (some (.ref q2))) (ns2 : PySem.W.subIn K (.ref q1) (.ref q2) = some true) (nt2 : PySem.W.typeIn K (.ref q2) = some (.type "type")) (ni2 : PySem.W.isClsIn K q2 = true) (nb2 : PySem.W.subIn K (.ref q2) (.type "BaseException") = some true)
    {q3 : Addr} (na3 : PySem.W.nsIn K mainGlobals "Endless" = some (some (.ref q3))) (ns3 : PySem.W.subIn K (.ref q1) (.ref q3) = some false) (nt3 : PySem.W.typeIn K (.ref q3) = some (.type "type")) (ni3 : PySem.W.isClsIn K q3 = true) (nb3 : PySem.W.subIn K (.ref q3) (.type "BaseException") = some true)
    {q4 : Addr} (na4 : PySem.W.nsIn K mainGlobals "NoBook" = some (some (.ref q4))) (ns4 : PySem.W.subIn K (.ref q1) (.ref q4) = some false) (nt4 : PySem.W.typeIn K (.ref q4) = some (.type "type")) (ni4 : PySem.W.isClsIn K q4 = true) (nb4 : PySem.W.subIn K (.ref q4) (.type "BaseException") = some true)
    {q5 : Addr} (na5 : PySem.W.nsIn K mainGlobals "NoDrop" = some (some (.ref q5))) (ns5 : PySem.W.subIn K (.ref q1) (.ref q5) = some false) (nt5 : PySem.W.typeIn K (.ref q5) = some (.type "type")) (ni5 : PySem.W.isClsIn K q5 = true) (nb5 : PySem.W.subIn K (.ref q5) (.type "BaseException") = some true)
    {q6 : Addr} (na6 : PySem.W.nsIn K mainGlobals "NoFall" = some (some (.ref q6))) (ns6 : PySem.W.subIn K (.ref q1) (.ref q6) = some false) (nt6 : PySem.W.typeIn K (.ref q6) = some (.type "type")) (ni6 : PySem.W.isClsIn K q6 = true) (nb6 : PySem.W.subIn K (.ref q6) (.type "BaseException") = some true)
    {q7 : Addr} (na7 : PySem.W.nsIn K mainGlobals "NoGrove" = some (some (.ref q7))) (ns7 : PySem.W.subIn K (.ref q1) (.ref q7) = some false) (nt7 : PySem.W.typeIn K (.ref q7) = some (.type "type")) (ni7 : PySem.W.isClsIn K q7 = true) (nb7 : PySem.W.subIn K (.ref q7) (.type "BaseException") = some true)
    {q8 : Addr} (na8 : PySem.W.nsIn K mainGlobals "NoKind" = some (some (.ref q8))) (ns8 : PySem.W.subIn K (.ref q1) (.ref q8) = some false) (nt8 : PySem.W.typeIn K (.ref q8) = some (.type "type")) (ni8 : PySem.W.isClsIn K q8 = true) (nb8 : PySem.W.subIn K (.ref q8) (.type "BaseException") = some true)
    {q9 : Addr} (na9 : PySem.W.nsIn K mainGlobals "NoLadder" = some (some (.ref q9))) (ns9 : PySem.W.subIn K (.ref q1) (.ref q9) = some false) (nt9 : PySem.W.typeIn K (.ref q9) = some (.type "type")) (ni9 : PySem.W.isClsIn K q9 = true) (nb9 : PySem.W.subIn K (.ref q9) (.type "BaseException") = some true)
    {q10 : Addr} (na10 : PySem.W.nsIn K mainGlobals "NoName" = some (some (.ref q10))) (ns10 : PySem.W.subIn K (.ref q1) (.ref q10) = some false) (nt10 : PySem.W.typeIn K (.ref q10) = some (.type "type")) (ni10 : PySem.W.isClsIn K q10 = true) (nb10 : PySem.W.subIn K (.ref q10) (.type "BaseException") = some true)
    {q11 : Addr} (na11 : PySem.W.nsIn K mainGlobals "NoNumber" = some (some (.ref q11))) (ns11 : PySem.W.subIn K (.ref q1) (.ref q11) = some false) (nt11 : PySem.W.typeIn K (.ref q11) = some (.type "type")) (ni11 : PySem.W.isClsIn K q11 = true) (nb11 : PySem.W.subIn K (.ref q11) (.type "BaseException") = some true)
    {q12 : Addr} (na12 : PySem.W.nsIn K mainGlobals "NoPlace" = some (some (.ref q12))) (ns12 : PySem.W.subIn K (.ref q1) (.ref q12) = some false) (nt12 : PySem.W.typeIn K (.ref q12) = some (.type "type")) (ni12 : PySem.W.isClsIn K q12 = true) (nb12 : PySem.W.subIn K (.ref q12) (.type "BaseException") = some true)
    {q13 : Addr} (na13 : PySem.W.nsIn K mainGlobals "NoReach" = some (some (.ref q13))) (ns13 : PySem.W.subIn K (.ref q1) (.ref q13) = some false) (nt13 : PySem.W.typeIn K (.ref q13) = some (.type "type")) (ni13 : PySem.W.isClsIn K q13 = true) (nb13 : PySem.W.subIn K (.ref q13) (.type "BaseException") = some true)
    {q14 : Addr} (na14 : PySem.W.nsIn K mainGlobals "NoRest" = some (some (.ref q14))) (ns14 : PySem.W.subIn K (.ref q1) (.ref q14) = some false) (nt14 : PySem.W.typeIn K (.ref q14) = some (.type "type")) (ni14 : PySem.W.isClsIn K q14 = true) (nb14 : PySem.W.subIn K (.ref q14) (.type "BaseException") = some true)
    {q15 : Addr} (na15 : PySem.W.nsIn K mainGlobals "NoRise" = some (some (.ref q15))) (ns15 : PySem.W.subIn K (.ref q1) (.ref q15) = some false) (nt15 : PySem.W.typeIn K (.ref q15) = some (.type "type")) (ni15 : PySem.W.isClsIn K q15 = true) (nb15 : PySem.W.subIn K (.ref q15) (.type "BaseException") = some true)
    {q16 : Addr} (na16 : PySem.W.nsIn K mainGlobals "NoRow" = some (some (.ref q16))) (ns16 : PySem.W.subIn K (.ref q1) (.ref q16) = some false) (nt16 : PySem.W.typeIn K (.ref q16) = some (.type "type")) (ni16 : PySem.W.isClsIn K q16 = true) (nb16 : PySem.W.subIn K (.ref q16) (.type "BaseException") = some true)
    {q17 : Addr} (na17 : PySem.W.nsIn K mainGlobals "NoRule" = some (some (.ref q17))) (ns17 : PySem.W.subIn K (.ref q1) (.ref q17) = some false) (nt17 : PySem.W.typeIn K (.ref q17) = some (.type "type")) (ni17 : PySem.W.isClsIn K q17 = true) (nb17 : PySem.W.subIn K (.ref q17) (.type "BaseException") = some true)
    {q18 : Addr} (na18 : PySem.W.nsIn K mainGlobals "NoWorths" = some (some (.ref q18))) (ns18 : PySem.W.subIn K (.ref q1) (.ref q18) = some false) (nt18 : PySem.W.typeIn K (.ref q18) = some (.type "type")) (ni18 : PySem.W.isClsIn K q18 = true) (nb18 : PySem.W.subIn K (.ref q18) (.type "BaseException") = some true)
    {q19 : Addr} (na19 : PySem.W.nsIn K mainGlobals "NotEndless" = some (some (.ref q19))) (ns19 : PySem.W.subIn K (.ref q1) (.ref q19) = some false) (nt19 : PySem.W.typeIn K (.ref q19) = some (.type "type")) (ni19 : PySem.W.isClsIn K q19 = true) (nb19 : PySem.W.subIn K (.ref q19) (.type "BaseException") = some true)
    {q20 : Addr} (na20 : PySem.W.nsIn K mainGlobals "TooGreat" = some (some (.ref q20))) (ns20 : PySem.W.subIn K (.ref q1) (.ref q20) = some false) (nt20 : PySem.W.typeIn K (.ref q20) = some (.type "type")) (ni20 : PySem.W.isClsIn K q20 = true) (nb20 : PySem.W.subIn K (.ref q20) (.type "BaseException") = some true)
    (xe1 : PySem.W.excIn K q1 [.type "ValueError", .type "Exception", .type "BaseException", .type "object"] "ValueError.__new__" = true) (xk1 : PySem.W.keepIn K (.ref q1) = true)
    (xe2 : PySem.W.excIn K q2 [.type "ValueError", .type "Exception", .type "BaseException", .type "object"] "ValueError.__new__" = true) (xk2 : PySem.W.keepIn K (.ref q2) = true)
    (eg : PySem.W.findIn K (.ref q1) "__getattribute__" = some (some (.builtin "BaseException.__getattribute__"))) (ek : PySem.W.findIn K (.ref q1) "__getattr__" = some none) (ed : PySem.W.hasDictIn K q1 = true) (ea : PySem.W.findIn K (.ref q1) "__class__" = some (some (.builtin "object.__class__"))) (en : PySem.W.specialIn K (.builtin "object.__class__") "__get__" = some (some (.builtin "getset_descriptor.__get__"))) (et : PySem.W.takesIn K (.builtin "object.__class__") = some true) (em : PySem.W.mroIn K q1 (.type "object") = some true)
    (zv : PySem.W.nsIn K mainGlobals "ValueError" = some none) (sv : PySem.W.subIn K (.ref q1) (.type "ValueError") = some true) (bv : PySem.W.subIn K (.type "ValueError") (.type "BaseException") = some true)
    (z1 : PySem.W.nsIn K mainGlobals "abs" = some none)
    (z2 : PySem.W.nsIn K mainGlobals "int" = some none)
    (z3 : PySem.W.nsIn K mainGlobals "len" = some none)
    (z4 : PySem.W.nsIn K mainGlobals "list" = some none)
    (z5 : PySem.W.nsIn K mainGlobals "tuple" = some none)
    (z6 : PySem.W.nsIn K mainGlobals "sum" = some none)
    (z7 : PySem.W.nsIn K mainGlobals "all" = some none)
    (z8 : PySem.W.nsIn K mainGlobals "any" = some none)
    (z9 : PySem.W.nsIn K mainGlobals "sorted" = some none)
    (z10 : PySem.W.nsIn K mainGlobals "max" = some none)
    (z11 : PySem.W.nsIn K mainGlobals "min" = some none)
    (z12 : PySem.W.nsIn K mainGlobals "str" = some none)
    (z13 : PySem.W.nsIn K mainGlobals "range" = some none)
    (z14 : PySem.W.nsIn K mainGlobals "zip" = some none)
    (z15 : PySem.W.nsIn K mainGlobals "enumerate" = some none)
    (z16 : PySem.W.nsIn K mainGlobals "reversed" = some none)
    (z17 : PySem.W.nsIn K mainGlobals "isinstance" = some none)
    (z18 : PySem.W.nsIn K mainGlobals "bool" = some none)
    (z19 : PySem.W.nsIn K mainGlobals "dict" = some none)
    (z20 : PySem.W.nsIn K mainGlobals "set" = some none) :
    ∃ fd : FuncData, (∀ (s : Shared) (v : Value), BindsTo s fd ⟨[v], []⟩ [("_law_script", v)]) ∧ ∀ base : Heap, K.In base → base.Ns mainGlobals mg → FnOk l.prog w K mg base (L2.CX l.prog w) 185 fa fd ["_law_script"] (lift K spLaw) := by
  have e := hfa.symm.trans (PySem.W.mg_of X G a13)
  cases e
  have F1 := fun_mk (st := s_size) l1 c1 k1
  have b1 := F1.binds (ps := ["grove"]) fun _ _ _ _ _ _ us hl => match us, hl with | [_], _ => rfl
  have m1 := PySem.W.mg_of X G a1
  have F2 := fun_mk (st := s_sizes_of) l2 c2 k2
  have b2 := F2.binds (ps := ["grove"]) fun _ _ _ _ _ _ us hl => match us, hl with | [_], _ => rfl
  have m2 := PySem.W.mg_of X G a2
  have F3 := fun_mk (st := s_orders) l3 c3 k3
  have b3 := F3.binds (ps := ["grove"]) fun _ _ _ _ _ _ us hl => match us, hl with | [_], _ => rfl
  have m3 := PySem.W.mg_of X G a3
  have F4 := fun_mk (st := s_law_purse) l4 c4 k4
  have b4 := F4.binds (ps := ["_law_script", "_law_k"]) fun _ _ _ _ _ _ us hl => match us, hl with | [_, _], _ => rfl
  have m4 := PySem.W.mg_of X G a4
  have F5 := fun_mk (st := s_law_take) l5 c5 k5
  have b5 := F5.binds (ps := ["_law_purse_here", "_law_many"]) fun _ _ _ _ _ _ us hl => match us, hl with | [_, _], _ => rfl
  have m5 := PySem.W.mg_of X G a5
  have F6 := fun_mk (st := s_law_names) l6 c6 k6
  have b6 := F6.binds (ps := ["_law_purse_here"]) fun _ _ _ _ _ _ us hl => match us, hl with | [_], _ => rfl
  have m6 := PySem.W.mg_of X G a6
  have F7 := fun_mk (st := s_law_tidy) l7 c7 k7
  have b7 := F7.binds (ps := ["_law_pairs"]) fun _ _ _ _ _ _ us hl => match us, hl with | [_], _ => rfl
  have m7 := PySem.W.mg_of X G a7
  have F8 := fun_mk (st := s_law_grove) l8 c8 k8
  have b8 := F8.binds (ps := ["_law_script", "_law_first", "_law_many", "_law_names_here", "_law_great", "_law_low"]) fun _ _ _ _ _ _ us hl => match us, hl with | [_, _, _, _, _, _], _ => rfl
  have m8 := PySem.W.mg_of X G a8
  have F9 := fun_mk (st := s_law_size) l9 c9 k9
  have b9 := F9.binds (ps := ["_law_grove_here"]) fun _ _ _ _ _ _ us hl => match us, hl with | [_], _ => rfl
  have m9 := PySem.W.mg_of X G a9
  have F10 := fun_mk (st := s_law_sizes) l10 c10 k10
  have b10 := F10.binds (ps := ["_law_grove_here"]) fun _ _ _ _ _ _ us hl => match us, hl with | [_], _ => rfl
  have m10 := PySem.W.mg_of X G a10
  have F11 := fun_mk (st := s_law_refused) l11 c11 k11
  have b11 := F11.binds (ps := ["_law_grove_here"]) fun _ _ _ _ _ _ us hl => match us, hl with | [_], _ => rfl
  have m11 := PySem.W.mg_of X G a11
  have F12 := fun_mk (st := s_law_right) l12 c12 k12
  have b12 := F12.binds (ps := ["_law_grove_here"]) fun _ _ _ _ _ _ us hl => match us, hl with | [_], _ => rfl
  have m12 := PySem.W.mg_of X G a12
  have F13 := fun_mk (st := s_law) l13 c13 k13
  have b13 := F13.binds (ps := ["_law_script"]) fun _ _ _ _ _ _ us hl => match us, hl with | [_], _ => rfl
  have m13 := PySem.W.mg_of X G a13
  refine ⟨PySem.W.fnOf "law" "law" (defArgs s_law) (defBody s_law) (defScope s_law) .none kV13 dc13 pm13 oa13 cd13 ct13, fun s v => .of_eq rfl, fun base _ _ => ?_⟩
  have A0 : Around' l.prog w K mg base (C0 q1 q2) 0 := by
    refine ⟨fun x sp hx => (by cases hx), fun x d hx => ?_, List.forall_mem_cons.2 ⟨PySem.W.mg_none_of X G z1, List.forall_mem_cons.2 ⟨PySem.W.mg_none_of X G z2, List.forall_mem_cons.2 ⟨PySem.W.mg_none_of X G z3, List.forall_mem_cons.2 ⟨PySem.W.mg_none_of X G z4, List.forall_mem_cons.2 ⟨PySem.W.mg_none_of X G z5, List.forall_mem_cons.2 ⟨PySem.W.mg_none_of X G z6, List.forall_mem_cons.2 ⟨PySem.W.mg_none_of X G z7, List.forall_mem_cons.2 ⟨PySem.W.mg_none_of X G z8, List.forall_mem_cons.2 ⟨PySem.W.mg_none_of X G z9, List.forall_mem_cons.2 ⟨PySem.W.mg_none_of X G z10, List.forall_mem_cons.2 ⟨PySem.W.mg_none_of X G z11, List.forall_mem_cons.2 ⟨PySem.W.mg_none_of X G z12, List.forall_mem_cons.2 ⟨PySem.W.mg_none_of X G z13, List.forall_mem_cons.2 ⟨PySem.W.mg_none_of X G z14, List.forall_mem_cons.2 ⟨PySem.W.mg_none_of X G z15, List.forall_mem_cons.2 ⟨PySem.W.mg_none_of X G z16, List.forall_mem_cons.2 ⟨PySem.W.mg_none_of X G z17, List.forall_mem_cons.2 ⟨PySem.W.mg_none_of X G z18, List.forall_mem_cons.2 ⟨PySem.W.mg_none_of X G z19, List.forall_mem_cons.2 ⟨PySem.W.mg_none_of X G z20, fun x hx => by cases hx⟩⟩⟩⟩⟩⟩⟩⟩⟩⟩⟩⟩⟩⟩⟩⟩⟩⟩⟩⟩, ⟨fun x c hx => ?_, fun c x b h => ?_⟩⟩
    · simp only [C0] at hx
      split at hx
      · rename_i e; cases hx; subst e; exact ⟨.int 400, .int 400 tMS, PySem.W.mg_of X G gMS, ⟨_, rfl⟩, fun H => .int 400⟩
      exact absurd hx (by simp)
    · simp only [C0] at hx
      split at hx
      · rename_i e; cases hx; subst e; exact ⟨PySem.W.mg_of X G na1, xe1, xk1, nb1, nt1⟩
      split at hx
      · rename_i e; cases hx; subst e; exact ⟨PySem.W.mg_of X G na2, xe2, xk2, nb2, nt2⟩
      cases hx
    · have EC : ExcC K q1 := ⟨eg, ek, nb1, ed, ea, en, et, em⟩
      simp only [C0] at h
      split at h
      · rename_i e; subst e
        unfold tab at h
        split at h
        · rename_i hm; cases h
          simp only [List.mem_cons, List.not_mem_nil, or_false] at hm
          rcases hm with rfl | rfl | rfl
          · exact xf_own EC ns1 (PySem.W.mg_of X G na1) ns1 nt1 ni1 nb1
          · exact xf_own EC ns1 (PySem.W.mg_of X G na2) ns2 nt2 ni2 nb2
          · exact xf_ty EC (PySem.W.mg_none_of X G zv) (by decide +kernel) (by decide +kernel) sv (by decide +kernel) bv
        · split at h
          · rename_i hm; cases h
            simp only [List.mem_cons, List.not_mem_nil, or_false] at hm
            rcases hm with rfl | rfl | rfl | rfl | rfl | rfl | rfl | rfl | rfl | rfl | rfl | rfl | rfl | rfl | rfl | rfl | rfl | rfl
            · exact xf_own EC ns1 (PySem.W.mg_of X G na3) ns3 nt3 ni3 nb3
            · exact xf_own EC ns1 (PySem.W.mg_of X G na4) ns4 nt4 ni4 nb4
            · exact xf_own EC ns1 (PySem.W.mg_of X G na5) ns5 nt5 ni5 nb5
            · exact xf_own EC ns1 (PySem.W.mg_of X G na6) ns6 nt6 ni6 nb6
            · exact xf_own EC ns1 (PySem.W.mg_of X G na7) ns7 nt7 ni7 nb7
            · exact xf_own EC ns1 (PySem.W.mg_of X G na8) ns8 nt8 ni8 nb8
            · exact xf_own EC ns1 (PySem.W.mg_of X G na9) ns9 nt9 ni9 nb9
            · exact xf_own EC ns1 (PySem.W.mg_of X G na10) ns10 nt10 ni10 nb10
            · exact xf_own EC ns1 (PySem.W.mg_of X G na11) ns11 nt11 ni11 nb11
            · exact xf_own EC ns1 (PySem.W.mg_of X G na12) ns12 nt12 ni12 nb12
            · exact xf_own EC ns1 (PySem.W.mg_of X G na13) ns13 nt13 ni13 nb13
            · exact xf_own EC ns1 (PySem.W.mg_of X G na14) ns14 nt14 ni14 nb14
            · exact xf_own EC ns1 (PySem.W.mg_of X G na15) ns15 nt15 ni15 nb15
            · exact xf_own EC ns1 (PySem.W.mg_of X G na16) ns16 nt16 ni16 nb16
            · exact xf_own EC ns1 (PySem.W.mg_of X G na17) ns17 nt17 ni17 nb17
            · exact xf_own EC ns1 (PySem.W.mg_of X G na18) ns18 nt18 ni18 nb18
            · exact xf_own EC ns1 (PySem.W.mg_of X G na19) ns19 nt19 ni19 nb19
            · exact xf_own EC ns1 (PySem.W.mg_of X G na20) ns20 nt20 ni20 nb20
          · cases h
      · cases h
  have G1 := ok_rec A0 F1 m1 b1 c_size spSize (fun _ => rfl) (by rintro _ _ _ _ ⟨g, _, _, _, h, _⟩; exact absurd h (by omega)) (fun n => by exact k_size (by (repeat (first | exact Env'.add_same | (refine (Env'.add_ne (by decide)).trans ?_))))) 44
  have A1 : Around' l.prog w K mg base (C1 q1 q2) 44 := (A0.mono (by omega)).add F1 m1 b1 G1
  have G2 := ok_rec A1 F2 m2 b2 c_sizes_of spSizes (fun _ => rfl) (by rintro _ _ _ _ ⟨g, _, _, _, h, _⟩; exact absurd h (by omega)) (fun n => by exact k_sizes_of (by (repeat (first | exact Env'.add_same | (refine (Env'.add_ne (by decide)).trans ?_)))) (by (repeat (first | exact Env'.add_same | (refine (Env'.add_ne (by decide)).trans ?_))))) 44
  have A2 : Around' l.prog w K mg base (C2 q1 q2) 88 := (A1.mono (by omega)).add F2 m2 b2 G2
  have G3 := ok_one A2 F3 c_orders rfl (by exact k_orders (TL := q1) (by (repeat (first | exact Env'.add_same | (refine (Env'.add_ne (by decide)).trans ?_)))) (by (repeat (first | exact Env'.add_same | (refine (Env'.add_ne (by decide)).trans ?_)))) (by rfl) (by rfl))
  have A3 : Around' l.prog w K mg base (C3 q1 q2) 89 := (A2.mono (by omega)).add F3 m3 b3 G3
  have G4 := ok_one A3 F4 c_law_purse rfl (by exact k_law_purse)
  have A4 : Around' l.prog w K mg base (C4 q1 q2) 90 := (A3.mono (by omega)).add F4 m4 b4 G4
  have G5 := ok_one A4 F5 c_law_take rfl (by exact k_law_take)
  have A5 : Around' l.prog w K mg base (C5 q1 q2) 91 := (A4.mono (by omega)).add F5 m5 b5 G5
  have G6 := ok_one A5 F6 c_law_names rfl (by exact k_law_names (by (repeat (first | exact Env'.add_same | (refine (Env'.add_ne (by decide)).trans ?_)))))
  have A6 : Around' l.prog w K mg base (C6 q1 q2) 92 := (A5.mono (by omega)).add F6 m6 b6 G6
  have G7 := ok_one A6 F7 c_law_tidy rfl (by exact k_law_tidy)
  have A7 : Around' l.prog w K mg base (C7 q1 q2) 93 := (A6.mono (by omega)).add F7 m7 b7 G7
  have G8 := ok_one A7 F8 c_law_grove rfl (by exact k_law_grove (by (repeat (first | exact Env'.add_same | (refine (Env'.add_ne (by decide)).trans ?_)))) (by (repeat (first | exact Env'.add_same | (refine (Env'.add_ne (by decide)).trans ?_)))) (by (repeat (first | exact Env'.add_same | (refine (Env'.add_ne (by decide)).trans ?_)))))
  have A8 : Around' l.prog w K mg base (C8 q1 q2) 94 := (A7.mono (by omega)).add F8 m8 b8 G8
  have G9 := ok_rec A8 F9 m9 b9 c_law_size spSize (fun _ => rfl) (by rintro _ _ _ _ ⟨g, _, _, _, h, _⟩; exact absurd h (by omega)) (fun n => by exact k_law_size (by (repeat (first | exact Env'.add_same | (refine (Env'.add_ne (by decide)).trans ?_))))) 44
  have A9 : Around' l.prog w K mg base (C9 q1 q2) 138 := (A8.mono (by omega)).add F9 m9 b9 G9
  have G10 := ok_rec A9 F10 m10 b10 c_law_sizes spLSizes (fun _ => rfl) (by rintro _ _ _ _ ⟨g, _, _, _, h, _⟩; exact absurd h (by omega)) (fun n => by exact k_law_sizes (by (repeat (first | exact Env'.add_same | (refine (Env'.add_ne (by decide)).trans ?_)))) (by (repeat (first | exact Env'.add_same | (refine (Env'.add_ne (by decide)).trans ?_))))) 44
  have A10 : Around' l.prog w K mg base (C10 q1 q2) 182 := (A9.mono (by omega)).add F10 m10 b10 G10
  have G11 := ok_one A10 F11 c_law_refused rfl (by exact k_law_refused (TL := q1) (FE := q2) (by (repeat (first | exact Env'.add_same | (refine (Env'.add_ne (by decide)).trans ?_)))) (by rfl) (if_pos rfl))
  have A11 : Around' l.prog w K mg base (C11 q1 q2) 183 := (A10.mono (by omega)).add F11 m11 b11 G11
  have G12 := ok_one A11 F12 c_law_right rfl (by exact k_law_right (TL := q1) (by (repeat (first | exact Env'.add_same | (refine (Env'.add_ne (by decide)).trans ?_)))) (by (repeat (first | exact Env'.add_same | (refine (Env'.add_ne (by decide)).trans ?_)))) (by (repeat (first | exact Env'.add_same | (refine (Env'.add_ne (by decide)).trans ?_)))) (by (repeat (first | exact Env'.add_same | (refine (Env'.add_ne (by decide)).trans ?_)))))
  have A12 : Around' l.prog w K mg base (C12 q1 q2) 184 := (A11.mono (by omega)).add F12 m12 b12 G12
  have G13 := ok_one A12 F13 c_law rfl (by exact k_law (by (repeat (first | exact Env'.add_same | (refine (Env'.add_ne (by decide)).trans ?_)))) (by (repeat (first | exact Env'.add_same | (refine (Env'.add_ne (by decide)).trans ?_)))) (by (repeat (first | exact Env'.add_same | (refine (Env'.add_ne (by decide)).trans ?_)))) (by (repeat (first | exact Env'.add_same | (refine (Env'.add_ne (by decide)).trans ?_)))) (by (repeat (first | exact Env'.add_same | (refine (Env'.add_ne (by decide)).trans ?_)))) (by (repeat (first | exact Env'.add_same | (refine (Env'.add_ne (by decide)).trans ?_)))) (by (repeat (first | exact Env'.add_same | (refine (Env'.add_ne (by decide)).trans ?_)))))
  exact G13
theorem walk {l : PySem.W.OpenLaw} {q : Program} {loose : List Str} {XP : (Str → Option Value) → Heap → Prop} {YP : World → Heap → Prop} {d : DefRec} {K : Params → PySem.W.Frag} (hn : l.most = some 63) (hdf : d.params.defaults = [])
    (hY : ∀ (w : World) (h : Heap), YP w h → (K w.params).In h)
    (F : ∀ (w : World) (mg : Str → Option Value) (fa : Addr) (h : Heap), (K w.params).In h → h.Ns mainGlobals mg → mg d.name = some (.ref fa) →
      ∃ fd : FuncData, (∀ (s : Shared) (u : Value), BindsTo s fd ⟨[u], []⟩ [("_law_script", u)]) ∧ ∀ base : Heap, (K w.params).In base → base.Ns mainGlobals mg → FnOk l.prog w (K w.params) mg base (L2.CX l.prog w) 185 fa fd ["_law_script"] (lift (K w.params) spLaw)) :
    PySem.W.WalkO q loose XP YP l.row.toRowW d [] (fun f vs => PySem.call f vs) :=
  L2.walk_of (n := 63) (k := 185) (x := "_law_script") (CX := fun w => L2.CX l.prog w) (sp := fun w => lift (K w.params) spLaw) hn (by decide) hdf ⟨rfl, by decide, by decide⟩ hY F (fun _ _ a ns hl hO hS => law_in hl hO hS) fun _ _ _ _ _ z => cx_no z
end K68
open PySem PySem.W PyProof.Rows
set_option maxRecDepth 100000 in
set_option maxHeartbeats 0 in
theorem PySem.Challenge.cw_felltimber_k68_orders_by_sizes_holds : PySem.Challenge.rw_felltimber_k68_orders_by_sizes.Holds := by
  w_on; o_law; k_head; (case hw => w_witness2)
  k_fill
  refine K68.walk (l := PySem.Challenge.rw_felltimber_k68_orders_by_sizes) rfl rfl (fun w h Y => PySem.W.kIn_of Y) ?F
  case F =>
    intro w mg fa h KX G hmg
    refine' K68.all_mk KX G hmg ?a1 ?l1 ?c1 ?k1 ?a2 ?l2 ?c2 ?k2 ?a3 ?l3 ?c3 ?k3 ?a4 ?l4 ?c4 ?k4 ?a5 ?l5 ?c5 ?k5 ?a6 ?l6 ?c6 ?k6 ?a7 ?l7 ?c7 ?k7 ?a8 ?l8 ?c8 ?k8 ?a9 ?l9 ?c9 ?k9 ?a10 ?l10 ?c10 ?k10 ?a11 ?l11 ?c11 ?k11 ?a12 ?l12 ?c12 ?k12 ?a13 ?l13 ?c13 ?k13 ?gMS ?na1 ?ns1 ?nt1 ?ni1 ?nb1 ?na2 ?ns2 ?nt2 ?ni2 ?nb2 ?na3 ?ns3 ?nt3 ?ni3 ?nb3 ?na4 ?ns4 ?nt4 ?ni4 ?nb4 ?na5 ?ns5 ?nt5 ?ni5 ?nb5 ?na6 ?ns6 ?nt6 ?ni6 ?nb6 ?na7 ?ns7 ?nt7 ?ni7 ?nb7 ?na8 ?ns8 ?nt8 ?ni8 ?nb8 ?na9 ?ns9 ?nt9 ?ni9 ?nb9 ?na10 ?ns10 ?nt10 ?ni10 ?nb10 ?na11 ?ns11 ?nt11 ?ni11 ?nb11 ?na12 ?ns12 ?nt12 ?ni12 ?nb12 ?na13 ?ns13 ?nt13 ?ni13 ?nb13 ?na14 ?ns14 ?nt14 ?ni14 ?nb14 ?na15 ?ns15 ?nt15 ?ni15 ?nb15 ?na16 ?ns16 ?nt16 ?ni16 ?nb16 ?na17 ?ns17 ?nt17 ?ni17 ?nb17 ?na18 ?ns18 ?nt18 ?ni18 ?nb18 ?na19 ?ns19 ?nt19 ?ni19 ?nb19 ?na20 ?ns20 ?nt20 ?ni20 ?nb20 ?xe1 ?xk1 ?xe2 ?xk2 ?eg ?ek ?ed ?ea ?en ?et ?em ?zv ?sv ?bv ?z1 ?z2 ?z3 ?z4 ?z5 ?z6 ?z7 ?z8 ?z9 ?z10 ?z11 ?z12 ?z13 ?z14 ?z15 ?z16 ?z17 ?z18 ?z19 ?z20
    (case a1 => k_is)
    (case l1 => k_is)
    (case c1 => k_is)
    (case k1 => k_is)
    (case a2 => k_is)
    (case l2 => k_is)
    (case c2 => k_is)
    (case k2 => k_is)
    (case a3 => k_is)
    (case l3 => k_is)
    (case c3 => k_is)
    (case k3 => k_is)
    (case a4 => k_is)
    (case l4 => k_is)
    (case c4 => k_is)
    (case k4 => k_is)
    (case a5 => k_is)
    (case l5 => k_is)
    (case c5 => k_is)
    (case k5 => k_is)
    (case a6 => k_is)
    (case l6 => k_is)
    (case c6 => k_is)
    (case k6 => k_is)
    (case a7 => k_is)
    (case l7 => k_is)
    (case c7 => k_is)
    (case k7 => k_is)
    (case a8 => k_is)
    (case l8 => k_is)
    (case c8 => k_is)
    (case k8 => k_is)
    (case a9 => k_is)
    (case l9 => k_is)
    (case c9 => k_is)
    (case k9 => k_is)
    (case a10 => k_is)
    (case l10 => k_is)
    (case c10 => k_is)
    (case k10 => k_is)
    (case a11 => k_is)
    (case l11 => k_is)
    (case c11 => k_is)
    (case k11 => k_is)
    (case a12 => k_is)
    (case l12 => k_is)
    (case c12 => k_is)
    (case k12 => k_is)
    (case a13 => k_is)
    (case l13 => k_is)
    (case c13 => k_is)
    (case k13 => k_is)
    (case gMS => k_is)
    (case na1 => k_is)
    (case ns1 => k_is)
    (case nt1 => k_is)
    (case ni1 => k_is)
    (case nb1 => k_is)
    (case na2 => k_is)
    (case ns2 => k_is)
    (case nt2 => k_is)
    (case ni2 => k_is)
    (case nb2 => k_is)
    (case na3 => k_is)
    (case ns3 => k_is)
    (case nt3 => k_is)
    (case ni3 => k_is)
    (case nb3 => k_is)
    (case na4 => k_is)
    (case ns4 => k_is)
    (case nt4 => k_is)
    (case ni4 => k_is)
    (case nb4 => k_is)
    (case na5 => k_is)
    (case ns5 => k_is)
    (case nt5 => k_is)
    (case ni5 => k_is)
    (case nb5 => k_is)
    (case na6 => k_is)
    (case ns6 => k_is)
    (case nt6 => k_is)
    (case ni6 => k_is)
    (case nb6 => k_is)
    (case na7 => k_is)
    (case ns7 => k_is)
    (case nt7 => k_is)
    (case ni7 => k_is)
    (case nb7 => k_is)
    (case na8 => k_is)
    (case ns8 => k_is)
    (case nt8 => k_is)
    (case ni8 => k_is)
    (case nb8 => k_is)
    (case na9 => k_is)
    (case ns9 => k_is)
    (case nt9 => k_is)
    (case ni9 => k_is)
    (case nb9 => k_is)
    (case na10 => k_is)
    (case ns10 => k_is)
    (case nt10 => k_is)
    (case ni10 => k_is)
    (case nb10 => k_is)
    (case na11 => k_is)
    (case ns11 => k_is)
    (case nt11 => k_is)
    (case ni11 => k_is)
    (case nb11 => k_is)
    (case na12 => k_is)
    (case ns12 => k_is)
    (case nt12 => k_is)
    (case ni12 => k_is)
    (case nb12 => k_is)
    (case na13 => k_is)
    (case ns13 => k_is)
    (case nt13 => k_is)
    (case ni13 => k_is)
    (case nb13 => k_is)
    (case na14 => k_is)
    (case ns14 => k_is)
    (case nt14 => k_is)
    (case ni14 => k_is)
    (case nb14 => k_is)
    (case na15 => k_is)
    (case ns15 => k_is)
    (case nt15 => k_is)
    (case ni15 => k_is)
    (case nb15 => k_is)
    (case na16 => k_is)
    (case ns16 => k_is)
    (case nt16 => k_is)
    (case ni16 => k_is)
    (case nb16 => k_is)
    (case na17 => k_is)
    (case ns17 => k_is)
    (case nt17 => k_is)
    (case ni17 => k_is)
    (case nb17 => k_is)
    (case na18 => k_is)
    (case ns18 => k_is)
    (case nt18 => k_is)
    (case ni18 => k_is)
    (case nb18 => k_is)
    (case na19 => k_is)
    (case ns19 => k_is)
    (case nt19 => k_is)
    (case ni19 => k_is)
    (case nb19 => k_is)
    (case na20 => k_is)
    (case ns20 => k_is)
    (case nt20 => k_is)
    (case ni20 => k_is)
    (case nb20 => k_is)
    (case xe1 => k_exc)
    (case xk1 => k_is)
    (case xe2 => k_exc)
    (case xk2 => k_is)
    (case eg => k_is)
    (case ek => k_is)
    (case ed => k_is)
    (case ea => k_is)
    (case en => k_is)
    (case et => k_is)
    (case em => k_is)
    (case zv => k_is)
    (case sv => k_is)
    (case bv => k_is)
    (case z1 => k_is)
    (case z2 => k_is)
    (case z3 => k_is)
    (case z4 => k_is)
    (case z5 => k_is)
    (case z6 => k_is)
    (case z7 => k_is)
    (case z8 => k_is)
    (case z9 => k_is)
    (case z10 => k_is)
    (case z11 => k_is)
    (case z12 => k_is)
    (case z13 => k_is)
    (case z14 => k_is)
    (case z15 => k_is)
    (case z16 => k_is)
    (case z17 => k_is)
    (case z18 => k_is)
    (case z19 => k_is)
    (case z20 => k_is)
end
